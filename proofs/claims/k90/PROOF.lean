import PyProof.Rows.All
import Wide.All
import OpenK.AllK
import Wide.FinOn
import HandS.ForMost
import HandS.Walk
import HandS.Defaults
import HandS.Evl
import HandS.TupAny
import HandS.TupMul
import HandS.Conv
import HandS.Deep
import HandS.TupLe
import HandS.Star
import HandS.MakeKwOnly
import HandS.Codes
import KE.GoesEnum
import HandS.SetFor
import HandS.SortInts
import HandS.Strs
import HandS.Iter
import HandS.IsInst
import HandS.WordsDict
import HandS.Zip
import HandS.Style
import HandS.NoneIn
import HandS.Small
import HandS.Dict
import HandS.Words
import KE.KStateDown
import Lean
import HandS.Head0
import HandS.Head1
import HandS.Head2
import HandS.HeadEnd
import HandS.HeadHook1
import HandS.HeadHook2
import PySem.Challenge.RW_thingsclear_k90_whole_seats_are_rights_o
set_option Elab.async false
set_option linter.all false
set_option maxRecDepth 100000
set_option maxHeartbeats 4000000
/-! DL0: tuples that are known to their object (it has no dict): their makers, calls of their methods. -/
namespace DL
open PySem PySem.Spec PyProof.Rows L2

/-- a known tuple -/
def KT (H : Hp) (a : Addr) (xs : List V) : Prop := ∃ o : Obj, H a = some (.frz o (.tup xs)) ∧ o.dict = none
theorem KT.sq {K : PySem.W.Frag} {H : Hp} {a : Addr} {xs : List V} (h : KT H a xs) : SqT K H a xs := by
  obtain ⟨o, h, _⟩ := h
  exact .inl (.inr ⟨o, h⟩)
/-- what is asked where a new tuple is made -/
def NewT (xs : List V) (H : Hp) (Q : VK) : Prop := ∀ (p : Addr) (o : Obj), o.dict = none → H p = none → Q (.ref p) (upd H p (.frz o (.tup xs)))
theorem laidT {X : Cx} {pins : List (Addr × Obj)} {σ : L2.St} {H : Hp} {s : Shared} {h' : Heap} {a : Addr} {t' : Nat} {xs : List V} {its : List Value} {Q : VK} (I : L2.Inv X pins σ H s) (k : ∀ b u, s.heap.get? b = some u → h'.get? b = some u) (hp : s.heap.objs.size ≤ a)
    (ho : h'.get? a = some { cls := .type "tuple", data := .seq its.toArray }) (r : Vals xs its) (hz : xs.length ≤ sizeLine) (q : NewT xs H Q) : EP X pins σ Q (.ref a) { s with heap := h', toks := t' } :=
  ⟨.ref a, _, I.laid k hp (o := .frz { cls := .type "tuple", data := .seq its.toArray } (.tup xs)) ⟨ho, hz, its, r, _, ho, rfl, _, rfl⟩, rfl, q a _ rfl (I.hok.fresh hp)⟩

section
variable {X : Cx} {e : Expr} {es : List Expr} {te : TE} {t : TA} {pos : Pos}
def tTupF (t : TA) : TE := fun σ H Q => t σ H fun xs H1 => xs.length ≤ sizeLine ∧ NewT xs H1 Q
theorem pe_tupF {x1} (h : PA X es t) : PE X (.Tuple es x1 pos) (tTupF t) := by
  refine ⟨fun pins s σ H Q I hq => ?_⟩
  refine wpAny_Tuple_spliced (thn (h.run pos pins s σ H _ I hq) fun us s1 ⟨xs, H1, I1, r, z, q⟩ => ⟨by rw [← r.length]; exact z, ?_⟩)
  exact laidT (t' := s1.toks) I1 (fun b u e => Heap.get?_push_of_some _ e) (Nat.le_refl _) (Heap.get?_push_size _ rfl) r z q
theorem call_tuple_ofF : CallR X (.type "tuple") (fun xs H Q => ∃ p ys, xs = [.ref p] ∧ ((SqL X.K H p ys ∧ NewT ys H Q) ∨ (SqT X.K H p ys ∧ Q (.ref p) H))) := by
  intro pins s σ H xs us Q I r h
  obtain ⟨p, ys, rfl, h⟩ := h
  obtain ⟨u, rfl, rx⟩ := vals1 r
  cases rx
  rcases h with ⟨hq, q⟩ | ⟨hq, q⟩
  · obtain ⟨its, r', pl, hz⟩ := I.list hq
    have hlen := r'.length
    refine call_tuple_list pl.isList (fun h' kp => ?_) (by simp only [List.size_toArray] <;> omega)
    have I1 : L2.Inv X pins σ H { s with heap := h' } := I.kept (t' := s.toks) kp
    exact laidT (s := { s with heap := h' }) (t' := s.toks) I1 (fun b o e => Heap.get?_push_of_some _ e) (Nat.le_refl _) (Heap.get?_push_size _ rfl) r' hz q
  · obtain ⟨its, r', pl, hz⟩ := I.tuple hq
    exact call_tuple_same pl ⟨.ref p, H, I, rfl, q⟩
/-- t + u -/
def rCatF (K : PySem.W.Frag) : R2 := fun x y H Q => ∃ a b xs ys, x = .ref a ∧ y = .ref b ∧ SqT K H a xs ∧ SqT K H b ys ∧ xs.length + ys.length ≤ sizeLine ∧
  (xs = [] → Q (.ref b) H) ∧ (xs ≠ [] → ys = [] → Q (.ref a) H) ∧ (xs ≠ [] → ys ≠ [] → NewT (xs ++ ys) H Q)
theorem op_catF : OpR X (binaryOp .Add) (rCatF X.K) := by
  intro pins s σ H x y v u Q I rx ry h
  obtain ⟨a, b, xs, ys, rfl, rfl, ha, hb, hz, q0, q1, q2⟩ := h
  cases rx
  cases ry
  obtain ⟨its, r1, p1, _⟩ := I.tuple ha
  obtain ⟨its2, r2, p2, _⟩ := I.tuple hb
  by_cases hx : xs = []
  · subst hx
    cases r1
    exact L2.cat_tup0 p1 p2 ⟨.ref b, H, I, rfl, q0 rfl⟩
  · refine HT.cat_tup p1 p2 (fun z => hx (r1.nil_iff.mp z)) (fun z => ⟨.ref a, H, I, rfl, q1 hx (r2.nil_iff.mp z)⟩) (fun z => ?_) (by rw [← r1.length, ← r2.length]; exact hz)
    exact laidT (t' := s.toks) I (fun b ob q => Heap.get?_push_of_some _ q) (Nat.le_refl _) (Heap.get?_push_size _ rfl) (r1.append r2) (by rw [List.length_append]; exact hz) (q2 hx fun w => z (r2.nil_iff.mpr w))
/-- t[lo:hi] -/
def rSlF (K : PySem.W.Frag) : V → Option Int → Option Int → Hp → VK → Prop := fun x lo hi H Q => ∃ a xs, x = .ref a ∧ SqT K H a xs ∧
  (HT.sIx xs.length 0 lo = 0 ∧ HT.sIx xs.length xs.length hi = xs.length → Q (.ref a) H) ∧ (¬ (HT.sIx xs.length 0 lo = 0 ∧ HT.sIx xs.length xs.length hi = xs.length) → NewT (cutV xs lo hi) H Q)
theorem sl_tupF : SlR X (rSlF X.K) := by
  intro pins s σ H x v vl vu lo hi sl Q I rx hs pl pu h
  obtain ⟨a, xs, rfl, hx, q1, q2⟩ := h
  cases rx
  obtain ⟨its, r, ht, hz⟩ := I.tuple hx
  have hlen : its.toArray.size = xs.length := by rw [List.size_toArray]; exact r.length.symm
  refine ⟨"tuple", _, PyProof.Rows.slot_tuple_getitem.lookup, ht.typeIs, ?_⟩
  by_cases hw : HT.sIx xs.length 0 lo = 0 ∧ HT.sIx xs.length xs.length hi = xs.length
  · exact L2.getItem_tuple_whole ht hs pl pu (by rw [hlen]; exact hw) ⟨.ref a, H, I, rfl, q1 hw⟩
  · refine HT.getItem_tuple_cut ht hs pl pu (by rw [hlen]; exact hw) ?_ (by rw [hlen]; exact hz)
    rw [hlen]
    exact laidT (t' := s.toks) I (fun b ob q => Heap.get?_push_of_some _ q) (Nat.le_refl _) (Heap.get?_push_size _ rfl) ((r.drop (HT.sIx xs.length 0 lo)).take (HT.sIx xs.length xs.length hi - HT.sIx xs.length 0 lo)) (Nat.le_trans (cutV_length xs lo hi) hz) (q2 hw)

/-! t * k -/
theorem tuple_mulS (l : Addr) (items : Array Value) (n : Nat) (dd : Option Addr) (sl : Array (Option Value)) (x : Int) (u : Tok) (c0 : (decide (x < -(2 ^ 63)) || decide (x ≥ 2 ^ 63)) = false) (c1 : (items.isEmpty || x == 1) = true) :
    Meets (Builtin.«tuple.__mul__» ⟨[.ref l, .int x u], []⟩) (fun _ R s => s.heap.get? l = some { cls := .type "tuple", dict := dd, data := .seq items n, slots := sl } ∧
      R (.ok (.ret (Value.ref l))) { s with heap := s.heap, toks := s.toks }) :=
  .of_wp fun prog w A R s h => by
    obtain ⟨hp, g, d, tk, os⟩ := s
    obtain ⟨hl, h⟩ := h
    have f1 := AutoSeq1.idx_int
    have f2 := AutoSeq1.sub_tuple_tuple
    wp_walk using wpAny_loadPart' hl
    repeat (first
      | (refine wpAny_ite_false (decide_eq_false (by rw [c0]; exact Bool.false_ne_true)) ?_; wp_walk using wpAny_loadPart' hl)
      | (refine wpAny_ite_true (decide_eq_true c1) ?_; wp_walk using wpAny_loadPart' hl))
    exact ⟨_, rfl, h⟩
theorem tuple_mul0 (l : Addr) (items : Array Value) (n : Nat) (dd : Option Addr) (sl : Array (Option Value)) (x : Int) (u : Tok) (c0 : (decide (x < -(2 ^ 63)) || decide (x ≥ 2 ^ 63)) = false) (c1 : (items.isEmpty || x == 1) = false) (c2 : (decide (x ≤ 0) || items.isEmpty) = true) :
    Meets (Builtin.«tuple.__mul__» ⟨[.ref l, .int x u], []⟩) (fun _ R s => s.heap.get? l = some { cls := .type "tuple", dict := dd, data := .seq items n, slots := sl } ∧
      R (.ok (.ret (Value.ref s.heap.objs.size))) { s with heap := s.heap.push { cls := Value.type "tuple", data := Data.seq #[] }, toks := s.toks }) :=
  .of_wp fun prog w A R s h => by
    obtain ⟨hp, g, d, tk, os⟩ := s
    obtain ⟨hl, h⟩ := h
    have f1 := AutoSeq1.idx_int
    have f2 := AutoSeq1.sub_tuple_tuple
    wp_walk using wpAny_loadPart' hl
    repeat (first
      | (refine wpAny_ite_false (decide_eq_false (by rw [c0]; exact Bool.false_ne_true)) ?_; wp_walk using wpAny_loadPart' hl)
      | (refine wpAny_ite_false (decide_eq_false (by rw [c1]; exact Bool.false_ne_true)) ?_; wp_walk using wpAny_loadPart' hl)
      | (refine wpAny_ite_true (decide_eq_true c2) ?_; wp_walk using wpAny_loadPart' hl))
    exact ⟨_, rfl, h⟩
def rRepF (K : PySem.W.Frag) : R2 := fun x y H Q => ∃ l k xs, x = .ref l ∧ y = .int k ∧ SqT K H l xs ∧ -1000 < k ∧ k ≤ 1000 ∧ xs.length ≤ 1000 ∧
  ((xs = [] ∨ k = 1) → Q (.ref l) H) ∧ (¬ (xs = [] ∨ k = 1) → NewT (List.replicate k.toNat xs).flatten H Q)
theorem op_repF : OpR X (binaryOp .Mult) (rRepF X.K) := by
  intro pins s σ H x y v u Q I rx ry h
  obtain ⟨l, k, xs, rfl, rfl, hT, h1, h2, hz, q1, q2⟩ := h
  cases rx
  obtain ⟨t, rfl⟩ := ry
  obtain ⟨its, r, ⟨⟨cls, dd, data, sl⟩, ho, hc, n, hd⟩, hs⟩ := I.tuple hT
  simp only at hc hd
  subst hc hd
  have hle : its.length = xs.length := r.length.symm
  have c0 : (decide (k < -(2 ^ 63)) || decide (k ≥ 2 ^ 63)) = false := by
    rw [decide_eq_false (by omega), decide_eq_false (by omega)] <;> rfl
  have hem : its.toArray.isEmpty = true ↔ xs = [] := by
    cases its with
    | nil => simp at hle ⊢; exact List.eq_nil_of_length_eq_zero hle.symm
    | cons a b =>
      cases xs with
      | nil => simp at hle
      | cons c d => simp
  by_cases hs1 : xs = [] ∨ k = 1
  · have c1 : (its.toArray.isEmpty || k == 1) = true := by
      rcases hs1 with z | z
      · rw [hem.mpr z]; rfl
      · subst z; simp
    refine wpAny_binaryOp_repeat_ref (T := "tuple") (U := "int") (by decide) ⟨_, ho, rfl⟩ (fun s' => typeIs_int s' k t) noFill_tuple_mul F.fills_int_mul F.slot_int_rmul repeat_tuple F.slot_int_index.lookup
      (call_meets F.slot_int_rmul (typeIs_int s k t) F.entry_int_rmul (F.args_int_rmul_2 _ _) (int_rmul_tuple k t l its.toArray n dd sl)
        ⟨ho, rfl, ⟨_, ho, rfl⟩, call_meets F.slot_tuple_mul ⟨_, ho, rfl⟩ F.entry_tuple_mul (F.args_tuple_mul_2 _ _) (tuple_mulS l its.toArray n dd sl k t c0 c1) ⟨ho, ?_⟩⟩)
    exact ⟨.ref l, H, I, rfl, q1 hs1⟩
  · have c1 : (its.toArray.isEmpty || k == 1) = false := by
      cases e : its.toArray.isEmpty with
      | true => exact absurd (.inl (hem.mp e)) hs1
      | false =>
        rw [Bool.false_or]
        exact beq_eq_false_iff_ne.mpr fun z => hs1 (.inr z)
    have hne : its.toArray.isEmpty = false := by
      cases e : its.toArray.isEmpty with
      | true => exact absurd (.inl (hem.mp e)) hs1
      | false => rfl
    have q2 := q2 hs1
    by_cases h0 : k ≤ 0
    · have c2 : (decide (k ≤ 0) || its.toArray.isEmpty) = true := by rw [decide_eq_true h0] <;> rfl
      refine wpAny_binaryOp_repeat_ref (T := "tuple") (U := "int") (by decide) ⟨_, ho, rfl⟩ (fun s' => typeIs_int s' k t) noFill_tuple_mul F.fills_int_mul F.slot_int_rmul repeat_tuple F.slot_int_index.lookup
        (call_meets F.slot_int_rmul (typeIs_int s k t) F.entry_int_rmul (F.args_int_rmul_2 _ _) (int_rmul_tuple k t l its.toArray n dd sl)
          ⟨ho, rfl, ⟨_, ho, rfl⟩, call_meets F.slot_tuple_mul ⟨_, ho, rfl⟩ F.entry_tuple_mul (F.args_tuple_mul_2 _ _) (tuple_mul0 l its.toArray n dd sl k t c0 c1 c2) ⟨ho, ?_⟩⟩)
      have e0 : k.toNat = 0 := by omega
      rw [e0] at q2
      exact laidT (its := []) (t' := s.toks) I (fun b ob q => Heap.get?_push_of_some _ q) (Nat.le_refl _) (Heap.get?_push_size _ rfl) .nil (Nat.zero_le _) q2
    · have hm : ((its.toArray.size : Nat) : Int) * k ≤ 1000000 := by
        rw [List.size_toArray, hle]
        have a1 : ((xs.length : Nat) : Int) * k ≤ 1000 * k := Int.mul_le_mul_of_nonneg_right (by omega) (by omega)
        omega
      have flen : (List.replicate k.toNat its).flatten.length ≤ sizeLine := by
        rw [PyProof.Rows.lm_len_rep_flat, hle, sizeLine_eq]
        have a1 : k.toNat * xs.length ≤ 1000 * 1000 := Nat.mul_le_mul (by omega) hz
        omega
      have c2 : (decide (k ≤ 0) || its.toArray.isEmpty) = false := by
        rw [hne, Bool.or_false]
        exact decide_eq_false (by omega)
      have c4 : Builtin.Tuple.tupleTooMany (((its.toArray.size : Nat) : Int) * k) = false := by
        unfold Builtin.Tuple.tupleTooMany
        rw [sizeLine_eq]
        exact decide_eq_false (by omega)
      refine wpAny_binaryOp_repeat_ref (T := "tuple") (U := "int") (by decide) ⟨_, ho, rfl⟩ (fun s' => typeIs_int s' k t) noFill_tuple_mul F.fills_int_mul F.slot_int_rmul repeat_tuple F.slot_int_index.lookup
        (call_meets F.slot_int_rmul (typeIs_int s k t) F.entry_int_rmul (F.args_int_rmul_2 _ _) (int_rmul_tuple k t l its.toArray n dd sl)
          ⟨ho, rfl, ⟨_, ho, rfl⟩, call_meets F.slot_tuple_mul ⟨_, ho, rfl⟩ F.entry_tuple_mul (F.args_tuple_mul_2 _ _) (tuple_mulW l its.toArray n dd sl k t c0 c1 c2 (by omega) c4 (by rw [size_rep, List.size_toArray]; exact flen)) ⟨ho, ?_⟩⟩)
      rw [size_rep]
      exact laidT (t' := s.toks) I (fun b ob q => Heap.get?_push_of_some _ q) (Nat.le_refl _) (Heap.get?_push_size _ rfl) (r.rep k.toNat) (by rw [← Vals.length (r.rep k.toNat)] at flen; exact flen) q2

/-! ### t.m(e, ..) of a known tuple -/
def tKM (r : V → List V → Hp → VK → Prop) (to : TE) (t : TA) : TE := fun σ H Q => to σ H fun x H1 => (∃ a xs, x = .ref a ∧ KT H1 a xs) ∧ t σ H1 fun xs H2 => r x xs H2 Q
theorem pe_km {o : Expr} {to : TE} {name : Str} {apos cpos : Pos} {id : String} {r : V → List V → Hp → VK → Prop} (pa : PlainAttrs "tuple") (slot : Slot "tuple" name id) (hty : typeOf (.builtin id) = pure (.type "method_descriptor")) (hm : MtR X id r) (ho : PE X o to) (ha : PA X (e :: es) t)
    (hbase : attributeBase o name X.env (eval o X.env) = eval o X.env := by rfl)
    (hfew : ((backTo cpos (starEach (e :: es) X.env)).all (fun x => !x.1) && (backToKw cpos (keywordEach [] X.env)).all (fun x => x.1.isSome)
      && decide ((e :: es).length + ([] : List Keyword).length + (if ([] : List Keyword).isEmpty then 0 else 1) < 30)) = true := by rfl)
    (hline : (apos.endLine == cpos.line) = true := by rfl) (hs : starEach (e :: es) X.env = (false, eval e X.env) :: starEach es X.env := by rfl) (hplain : (backTo cpos (starEach es X.env)).any (·.1) = false := by rfl) :
    PE X (.Call (.Attribute o name apos) (e :: es) [] cpos) (tKM r to t) := by
  refine ⟨fun pins s σ H Q I h => ?_⟩
  refine wpAny_Call_method_late hbase hfew hline rfl (thn (ho.run pins s σ H _ I h) fun v s1 ⟨x, H1, I1, r1, ⟨a, xs, ex, ob, hk, hd⟩, q1⟩ => ?_)
  subst ex
  obtain ⟨e1, _, its, _, o2, e2, hc, _⟩ := I1.hok a _ hk
  rw [e1] at e2
  cases e2
  have rx : v = Value.ref a := r1
  subst rx
  refine ⟨"tuple", id, pa, slot, hty, ⟨ob, e1, hc⟩, fun b eb => ?_, ?_⟩
  · cases eb
    exact ⟨ob, e1, hd⟩
  have hA := ha.run cpos pins s1 σ H1 _ I1 q1
  rw [hs] at hA ⊢
  refine Calls.callWith_builtin (by show (false || (backTo cpos (starEach es X.env)).any (·.1)) = false; rw [hplain] <;> rfl) (Calls.evalArgs_plain ?_)
  exact thn hA fun us s2 ⟨vs, H2, I2, r2, q2⟩ => hm pins s2 σ H2 (.ref a) vs _ us Q I2 rfl r2 q2
end
end DL
set_option maxRecDepth 100000
set_option maxHeartbeats 1000000
/-! DL1: data in place of heaps: what a value stands for, the state by data, the lifted judgements. -/
namespace DL
open PySem L2

inductive Dat where
  | non | bl (b : Bool) | int (i : Int) | str (x : Str)
  | tup (xs : List Dat) | lst (xs : List Dat)
  | dct (ks : List (Key × Dat)) | dtt (ks : List (List Key × Dat))
  | obj (C : Addr) (fs : List (Str × Dat))
  | cell | ty (n : String) | cls (C : Addr)

mutual
inductive Rep (B : Option Addr) (F : Hp) : V → Dat → Prop
  | non : Rep B F .non .non
  | bl {b} : Rep B F (.bl b) (.bl b)
  | int {i} : Rep B F (.int i) (.int i)
  | str {x} : Rep B F (.str x) (.str x)
  | tup {p vs xs} {o : Obj} : F p = some (.frz o (.tup vs)) → o.dict = none → Reps B F vs xs → Rep B F (.ref p) (.tup xs)
  | lst {p vs xs} : F p = some (.lst vs) → Reps B F vs xs → Rep B F (.ref p) (.lst xs)
  | dct {p ks xs} : F p = some (.dK ks) → ks.map (·.1) = xs.map (·.1) → Reps B F (ks.map (·.2)) (xs.map (·.2)) → Rep B F (.ref p) (.dct xs)
  | dtt {p ks xs} : F p = some (.dT ks) → ks.map (·.1) = xs.map (·.1) → Reps B F (ks.map (·.2)) (xs.map (·.2)) → Rep B F (.ref p) (.dtt xs)
  | obj {p C dx fs xs} : F p = some (.ins C dx fs) → fs.map (·.1) = xs.map (·.1) → Reps B F (fs.map (·.2)) (xs.map (·.2)) → Rep B F (.ref p) (.obj C xs)
  | cell {b} : B = some b → Rep B F (.ref b) .cell
  | ty {n} : Rep B F (.ty n) (.ty n)
  | cls {C} : Rep B F (.ref C) (.cls C)
inductive Reps (B : Option Addr) (F : Hp) : List V → List Dat → Prop
  | nil : Reps B F [] []
  | cons {v d vs ds} : Rep B F v d → Reps B F vs ds → Reps B F (v :: vs) (d :: ds)
end

def Ex (H H' : Hp) : Prop := ∀ a o, H a = some o → H' a = some o
theorem Ex.refl (H : Hp) : Ex H H := fun _ _ h => h
theorem Ex.trans {H H1 H2 : Hp} (a : Ex H H1) (b : Ex H1 H2) : Ex H H2 := fun x o h => b x o (a x o h)
theorem Ex.new {H : Hp} {p : Addr} {o : HO} (h : H p = none) : Ex H (upd H p o) := fun a u e => by
  rw [upd_ne (ne_of_none e h)]
  exact e
theorem Ex.upd {H H' : Hp} {p : Addr} {o : HO} (e : Ex H H') : Ex (upd H p o) (L2.upd H' p o) := fun a u h => by
  by_cases q : a = p
  · subst q; rw [upd_same] at h ⊢; exact h
  · rw [upd_ne q] at h ⊢; exact e a u h
/-- an object that H does not know may change -/
theorem Ex.mut {H H' : Hp} {p : Addr} {o : HO} (e : Ex H H') (h : H p = none) : Ex H (L2.upd H' p o) := fun a u ha => by
  rw [upd_ne (ne_of_none ha h)]
  exact e a u ha
theorem Ex.back {H H' : Hp} {p : Addr} (e : Ex H H') (h : H' p = none) : H p = none := by
  cases q : H p with
  | none => rfl
  | some o => rw [e p o q] at h; cases h

mutual
theorem Rep.mono {B : Option Addr} {F F' : Hp} (e : Ex F F') : ∀ {v d}, Rep B F v d → Rep B F' v d
  | _, _, .non => .non
  | _, _, .bl => .bl
  | _, _, .int => .int
  | _, _, .str => .str
  | _, _, .tup h hd r => .tup (e _ _ h) hd (Reps.mono e r)
  | _, _, .lst h r => .lst (e _ _ h) (Reps.mono e r)
  | _, _, .dct h k r => .dct (e _ _ h) k (Reps.mono e r)
  | _, _, .dtt h k r => .dtt (e _ _ h) k (Reps.mono e r)
  | _, _, .obj h k r => .obj (e _ _ h) k (Reps.mono e r)
  | _, _, .cell h => .cell h
  | _, _, .ty => .ty
  | _, _, .cls => .cls
theorem Reps.mono {B : Option Addr} {F F' : Hp} (e : Ex F F') : ∀ {vs ds}, Reps B F vs ds → Reps B F' vs ds
  | _, _, .nil => .nil
  | _, _, .cons h r => .cons (Rep.mono e h) (Reps.mono e r)
end
theorem Reps.length {B : Option Addr} {F : Hp} : ∀ {vs ds}, Reps B F vs ds → vs.length = ds.length
  | _, _, .nil => rfl
  | _, _, .cons _ r => by rw [List.length_cons, List.length_cons, r.length]
theorem Reps.get {B : Option Addr} {F : Hp} : ∀ {vs : List V} {ds : List Dat} {i : Nat} {d : Dat}, Reps B F vs ds → ds[i]? = some d → ∃ v, vs[i]? = some v ∧ Rep B F v d
  | _, _, _, _, .nil, e => by simp at e
  | _, _, 0, _, .cons r _, e => by simp at e; subst e; exact ⟨_, rfl, r⟩
  | _, _, i + 1, d, .cons _ t, e => by
    obtain ⟨u, h1, h2⟩ := Reps.get (i := i) (d := d) t (by simpa using e)
    exact ⟨u, by simpa using h1, h2⟩
theorem Reps.getV {B : Option Addr} {F : Hp} : ∀ {vs : List V} {ds : List Dat} {i : Nat} {v : V}, Reps B F vs ds → vs[i]? = some v → ∃ d, ds[i]? = some d ∧ Rep B F v d
  | _, _, _, _, .nil, e => by simp at e
  | _, _, 0, _, .cons r _, e => by simp at e; subst e; exact ⟨_, rfl, r⟩
  | _, _, i + 1, d, .cons _ t, e => by
    obtain ⟨u, h1, h2⟩ := Reps.getV (i := i) (v := d) t (by simpa using e)
    exact ⟨u, by simpa using h1, h2⟩
theorem Reps.append {B : Option Addr} {F : Hp} : ∀ {vs ws : List V} {ds es : List Dat}, Reps B F vs ds → Reps B F ws es → Reps B F (vs ++ ws) (ds ++ es)
  | _, _, _, _, .nil, h => h
  | _, _, _, _, .cons r t, h => .cons r (t.append h)
theorem Reps.set {B : Option Addr} {F : Hp} {v : V} {d : Dat} (h : Rep B F v d) : ∀ {vs : List V} {ds : List Dat} (i : Nat), Reps B F vs ds → Reps B F (vs.set i v) (ds.set i d)
  | _, _, _, .nil => .nil
  | _, _, 0, .cons _ t => .cons h t
  | _, _, i + 1, .cons r t => .cons r (t.set h i)
theorem Reps.take {B : Option Addr} {F : Hp} : ∀ {vs : List V} {ds : List Dat} (n : Nat), Reps B F vs ds → Reps B F (vs.take n) (ds.take n)
  | _, _, 0, _ => .nil
  | _, _, _ + 1, .nil => .nil
  | _, _, n + 1, .cons r t => .cons r (t.take n)
theorem Reps.drop {B : Option Addr} {F : Hp} : ∀ {vs : List V} {ds : List Dat} (n : Nat), Reps B F vs ds → Reps B F (vs.drop n) (ds.drop n)
  | _, _, 0, r => r
  | _, _, _ + 1, .nil => .nil
  | _, _, n + 1, .cons _ t => t.drop n
theorem Reps.eraseIdx {B : Option Addr} {F : Hp} : ∀ {vs : List V} {ds : List Dat} (n : Nat), Reps B F vs ds → Reps B F (vs.eraseIdx n) (ds.eraseIdx n)
  | _, _, _, .nil => by simpa using Reps.nil
  | _, _, 0, .cons _ t => t
  | _, _, n + 1, .cons r t => .cons r (t.eraseIdx n)
theorem Reps.dropLast {B : Option Addr} {F : Hp} {vs : List V} {ds : List Dat} (h : Reps B F vs ds) : Reps B F vs.dropLast ds.dropLast := by
  rw [List.dropLast_eq_take, List.dropLast_eq_take, h.length]
  exact h.take _
theorem Reps.flatten {B : Option Addr} {F : Hp} {vs : List V} {ds : List Dat} (h : Reps B F vs ds) : ∀ n, Reps B F (List.replicate n vs).flatten (List.replicate n ds).flatten
  | 0 => by simpa using Reps.nil
  | n + 1 => by rw [List.replicate_succ, List.replicate_succ, List.flatten_cons, List.flatten_cons]; exact h.append (h.flatten n)
theorem Reps.ints {B : Option Addr} {F : Hp} : ∀ {vs : List V} {ns : List Int}, Reps B F vs (ns.map Dat.int) → vs = ns.map V.int
  | _, [], .nil => rfl
  | _, n :: ns, h => by
    rw [List.map_cons] at h
    cases h with
    | cons r t => cases r; rw [t.ints]; rfl
theorem Reps.of_ints {B : Option Addr} {F : Hp} : ∀ (ns : List Int), Reps B F (ns.map V.int) (ns.map Dat.int)
  | [] => .nil
  | n :: ns => .cons .int (Reps.of_ints ns)
theorem Reps.bls {B : Option Addr} {F : Hp} : ∀ {vs : List V} {ns : List Bool}, Reps B F vs (ns.map Dat.bl) → vs = ns.map V.bl
  | _, [], .nil => rfl
  | _, n :: ns, h => by
    rw [List.map_cons] at h
    cases h with
    | cons r t => cases r; rw [t.bls]; rfl

/-! ### the box -/
def CAP : Nat := 2 ^ 38
def BoxV (vs : List V) (n : Nat) : Prop := ∃ (g : Int) (k : Bool) (m l : Int), vs = [.int g, .bl k, .int m, .int l] ∧ 0 ≤ g ∧ 0 ≤ m ∧ m < 2147483647 ∧ 0 ≤ l ∧ l ≤ n
def BoxAt (B : Option Addr) (H : Hp) (n : Nat) : Prop := ∀ b, B = some b → ∃ vs, H b = some (.lst vs) ∧ BoxV vs n
theorem BoxAt.mono {B : Option Addr} {H : Hp} {n m : Nat} (h : BoxAt B H n) (e : n ≤ m) : BoxAt B H m := fun b hb => by
  obtain ⟨vs, h1, g, k, m', l, h2, h3, h4, h5, h6, h7⟩ := h b hb
  exact ⟨vs, h1, g, k, m', l, h2, h3, h4, h5, h6, by omega⟩

/-- what is owned by one name: a list or a dict that may change -/
def Cont (B : Option Addr) (F : Hp) : HO → Dat → Prop
  | .lst vs, .lst ds => Reps B F vs ds
  | .dK ks, .dct xs => ks.map (·.1) = xs.map (·.1) ∧ Reps B F (ks.map (·.2)) (xs.map (·.2))
  | .dT ks, .dtt xs => ks.map (·.1) = xs.map (·.1) ∧ Reps B F (ks.map (·.2)) (xs.map (·.2))
  | .ins C _ fs, .obj C' xs => C = C' ∧ fs.map (·.1) = xs.map (·.1) ∧ Reps B F (fs.map (·.2)) (xs.map (·.2))
  | _, _ => False
theorem Cont.mono {B : Option Addr} {F F' : Hp} (e : Ex F F') {o : HO} {d : Dat} (h : Cont B F o d) : Cont B F' o d := by
  cases o <;> cases d <;> first | exact h.elim | exact Reps.mono e h | exact ⟨h.1, Reps.mono e h.2⟩ | exact ⟨h.1, h.2.1, Reps.mono e h.2.2⟩
structure Ow (B : Option Addr) (F H : Hp) (p : Addr) (d : Dat) : Prop where
  out : F p = none
  nb : B ≠ some p
  con : ∃ o, H p = some o ∧ Cont B F o d
theorem Cont.rep {B : Option Addr} {F : Hp} {p : Addr} {o : HO} {d : Dat} (hp : F p = some o) (h : Cont B F o d) : Rep B F (.ref p) d := by
  cases o <;> cases d <;> first | exact h.elim | exact .lst hp h | exact .dct hp h.1 h.2 | exact .dtt hp h.1 h.2 | (obtain ⟨rfl, h1, h2⟩ := h; exact .obj hp h1 h2)

/-! ### growing -/
structure Gr (A : Addr → Prop) (B : Option Addr) (c : Nat) (F H F' H' : Hp) : Prop where
  ex : Ex F F'
  sub : Ex F' H'
  new : ∀ a o, F' a = some o → F a = some o ∨ H a = none ∨ A a
  keep : ∀ a o, H a = some o → B ≠ some a → ¬ A a → H' a = some o
  there : ∀ a o, H a = some o → ∃ o', H' a = some o'
  box : ∀ n, BoxAt B H n → BoxAt B H' (n + c)
abbrev NoA : Addr → Prop := fun _ => False
theorem Gr.free {A : Addr → Prop} {B : Option Addr} {c : Nat} {F H F' H' : Hp} (g : Gr A B c F H F' H') {a : Addr} (h : H' a = none) : H a = none := by
  cases q : H a with
  | none => rfl
  | some o => obtain ⟨o', e⟩ := g.there a o q; rw [e] at h; cases h
theorem Gr.refl {A : Addr → Prop} {B : Option Addr} {F H : Hp} (e : Ex F H) : Gr A B 0 F H F H :=
  ⟨.refl _, e, fun _ _ h => .inl h, fun _ _ h _ _ => h, fun _ o h => ⟨o, h⟩, fun _ h => h⟩
theorem Gr.mono {A : Addr → Prop} {B : Option Addr} {c c' : Nat} {F H F' H' : Hp} (g : Gr A B c F H F' H') (h : c ≤ c') : Gr A B c' F H F' H' :=
  { g with box := fun n b => (g.box n b).mono (by omega) }
theorem Gr.toA {A A' : Addr → Prop} {B : Option Addr} {c : Nat} {F H F' H' : Hp} (g : Gr A B c F H F' H') (h : ∀ a, A a → A' a) : Gr A' B c F H F' H' :=
  { g with new := fun a o e => (g.new a o e).imp_right fun z => z.imp_right (h a), keep := fun a o e nb na => g.keep a o e nb fun z => na (h a z) }
theorem Gr.any {A : Addr → Prop} {B : Option Addr} {c : Nat} {F H F' H' : Hp} (g : Gr NoA B c F H F' H') : Gr A B c F H F' H' := g.toA fun _ z => z.elim
theorem Gr.trans {A : Addr → Prop} {B : Option Addr} {c c' : Nat} {F H F1 H1 F2 H2 : Hp} (g : Gr A B c F H F1 H1) (k : Gr A B c' F1 H1 F2 H2) : Gr A B (c + c') F H F2 H2 where
  ex := g.ex.trans k.ex
  sub := k.sub
  new := fun a o h => by
    rcases k.new a o h with z | z | z
    · exact g.new a o z
    · exact .inr (.inl (g.free z))
    · exact .inr (.inr z)
  keep := fun a o h nb na => k.keep a o (g.keep a o h nb na) nb na
  there := fun a o h => by
    obtain ⟨o1, h1⟩ := g.there a o h
    exact k.there a o1 h1
  box := fun n h => by rw [← Nat.add_assoc]; exact k.box _ (g.box n h)
/-- a new object, known from now on -/
theorem Gr.alloc {A : Addr → Prop} {B : Option Addr} {F H : Hp} {p : Addr} {o : HO} (e : Ex F H) (h : H p = none) : Gr A B 0 F H (upd F p o) (upd H p o) where
  ex := Ex.new (e.back h)
  sub := e.upd
  new := fun a u q => by
    by_cases z : a = p
    · subst z; exact .inr (.inl h)
    · rw [upd_ne z] at q; exact .inl q
  keep := fun a u q _ _ => Ex.new h a u q
  there := fun a u q => ⟨u, Ex.new h a u q⟩
  box := fun n b => fun x hx => by
    obtain ⟨vs, h1, h2⟩ := b x hx
    exact ⟨vs, Ex.new h x _ h1, h2⟩
/-- a new object, known to nobody -/
theorem Gr.alloc0 {A : Addr → Prop} {B : Option Addr} {F H : Hp} {p : Addr} {o : HO} (e : Ex F H) (h : H p = none) : Gr A B 0 F H F (upd H p o) where
  ex := .refl _
  sub := e.mut (e.back h)
  new := fun a u q => .inl q
  keep := fun a u q _ _ => Ex.new h a u q
  there := fun a u q => ⟨u, Ex.new h a u q⟩
  box := fun n b => fun x hx => by
    obtain ⟨vs, h1, h2⟩ := b x hx
    exact ⟨vs, Ex.new h x _ h1, h2⟩
/-- an object of one's own changes -/
theorem Gr.write {A : Addr → Prop} {B : Option Addr} {F H : Hp} {p : Addr} {o : HO} (e : Ex F H) (ha : A p) (hf : F p = none) (hb : B ≠ some p) : Gr A B 0 F H F (upd H p o) where
  ex := .refl _
  sub := e.mut hf
  new := fun a u q => .inl q
  keep := fun a u q _ na => by
    have : a ≠ p := fun z => na (z ▸ ha)
    rw [upd_ne this]; exact q
  there := fun a u q => by
    by_cases z : a = p
    · subst z; exact ⟨o, upd_same⟩
    · exact ⟨u, by rw [upd_ne z]; exact q⟩
  box := fun n b => fun x hx => by
    obtain ⟨vs, h1, h2⟩ := b x hx
    have : x ≠ p := fun z => hb (z ▸ hx)
    exact ⟨vs, by rw [upd_ne this]; exact h1, h2⟩
/-- an object of one's own becomes known -/
theorem Gr.freeze {A : Addr → Prop} {B : Option Addr} {F H : Hp} {p : Addr} {o : HO} (e : Ex F H) (ha : A p) (hf : F p = none) (hp : H p = some o) : Gr A B 0 F H (upd F p o) H where
  ex := Ex.new hf
  sub := fun a u q => by
    by_cases z : a = p
    · subst z; rw [upd_same] at q; rw [← q]; exact hp
    · rw [upd_ne z] at q; exact e a u q
  new := fun a u q => by
    by_cases z : a = p
    · subst z; exact .inr (.inr ha)
    · rw [upd_ne z] at q; exact .inl q
  keep := fun a u q _ _ => q
  there := fun a u q => ⟨u, q⟩
  box := fun n b => b

/-! ### the state -/
inductive Sl where
  | off | val (d : Dat) | own (d : Dat) | raw (v : V)
abbrev Ev := List Sl
structure Rs (A : Addr → Prop) (B : Option Addr) (F H : Hp) (σ : L2.St) (ε : Ev) : Prop where
  ex : Ex F H
  len : ε.length = σ.length
  val : ∀ (i : Nat) (d : Dat), ε[i]? = some (.val d) → ∃ v, σ[i]? = some (some v) ∧ Rep B F v d
  own : ∀ (i : Nat) (d : Dat), ε[i]? = some (.own d) → ∃ p, σ[i]? = some (some (.ref p)) ∧ A p ∧ Ow B F H p d
  sep : ∀ (i j : Nat) (d e : Dat) (p : Addr), ε[i]? = some (.own d) → ε[j]? = some (.own e) → σ[i]? = some (some (.ref p)) → σ[j]? = some (some (.ref p)) → i = j
  bx : ∀ b, B = some b → F b = none ∧ ¬ A b ∧ ∃ o, H b = some o
  new : ∀ a, H a = none → A a
  raw : ∀ (i : Nat) (v : V), ε[i]? = some (.raw v) → σ[i]? = some (some v)
section
variable {A : Addr → Prop} {B : Option Addr} {F H F' H' : Hp} {σ σ' : L2.St} {ε ε' : Ev} {c : Nat}
theorem Gr.bF (g : Gr A B c F H F' H') (bx : ∀ b, B = some b → F b = none ∧ ¬ A b ∧ ∃ o, H b = some o) : ∀ b, B = some b → F' b = none ∧ ¬ A b ∧ ∃ o, H' b = some o := fun b hb => by
  obtain ⟨h1, h2, o, h3⟩ := bx b hb
  refine ⟨?_, h2, g.there b o h3⟩
  cases q : F' b with
  | none => rfl
  | some u =>
    rcases g.new b u q with z | z | z
    · rw [h1] at z; cases z
    · rw [h3] at z; cases z
    · exact (h2 z).elim
theorem Ow.gr {p : Addr} {d : Dat} (w : Ow B F H p d) (g : Gr NoA B c F H F' H') : Ow B F' H' p d := by
  obtain ⟨o, h1, h2⟩ := w.con
  refine ⟨?_, w.nb, o, g.keep p o h1 w.nb (fun z => z), h2.mono g.ex⟩
  cases q : F' p with
  | none => rfl
  | some u =>
    rcases g.new p u q with z | z | z
    · rw [w.out] at z; cases z
    · rw [h1] at z; cases z
    · exact z.elim
theorem Rs.gr (r : Rs A B F H σ ε) (g : Gr NoA B c F H F' H') : Rs A B F' H' σ ε where
  ex := g.sub
  len := r.len
  val := fun i d e => by
    obtain ⟨v, h1, h2⟩ := r.val i d e
    exact ⟨v, h1, h2.mono g.ex⟩
  own := fun i d e => by
    obtain ⟨p, h1, h2, h3⟩ := r.own i d e
    exact ⟨p, h1, h2, h3.gr g⟩
  sep := r.sep
  bx := (g.any (A := A)).bF r.bx
  new := fun a h => r.new a (g.free h)
  raw := r.raw
/-- a frozen value is stored -/
theorem Rs.setVal (r : Rs A B F H σ ε) {i : Nat} {v : V} {d : Dat} (h : Rep B F v d) : Rs A B F H (σ.set i (some v)) (ε.set i (.val d)) where
  ex := r.ex
  len := by rw [List.length_set, List.length_set, r.len]
  val := fun j e q => by
    by_cases z : i = j
    · subst z
      have hi : i < ε.length := by
        have := (List.getElem?_eq_some_iff.mp q).1
        rwa [List.length_set] at this
      rw [List.getElem?_set_self hi] at q
      cases q
      exact ⟨v, by rw [List.getElem?_set_self (by rw [← r.len]; exact hi)], h⟩
    · rw [List.getElem?_set_ne z] at q ⊢
      exact r.val j e q
  own := fun j e q => by
    by_cases z : i = j
    · subst z
      have hi : i < ε.length := by
        have := (List.getElem?_eq_some_iff.mp q).1
        rwa [List.length_set] at this
      rw [List.getElem?_set_self hi] at q
      cases q
    · rw [List.getElem?_set_ne z] at q ⊢
      exact r.own j e q
  sep := fun j k d1 d2 p h1 h2 h3 h4 => by
    by_cases z : i = j
    · subst z
      have hi : i < ε.length := by
        have := (List.getElem?_eq_some_iff.mp h1).1
        rwa [List.length_set] at this
      rw [List.getElem?_set_self hi] at h1
      cases h1
    · by_cases z2 : i = k
      · subst z2
        have hi : i < ε.length := by
          have := (List.getElem?_eq_some_iff.mp h2).1
          rwa [List.length_set] at this
        rw [List.getElem?_set_self hi] at h2
        cases h2
      · rw [List.getElem?_set_ne z] at h1 h3
        rw [List.getElem?_set_ne z2] at h2 h4
        exact r.sep j k d1 d2 p h1 h2 h3 h4
  bx := r.bx
  new := r.new
  raw := fun j e q => by
    by_cases z : i = j
    · subst z
      have hi : i < ε.length := by
        have := (List.getElem?_eq_some_iff.mp q).1
        rwa [List.length_set] at this
      rw [List.getElem?_set_self hi] at q
      cases q
    · rw [List.getElem?_set_ne z] at q ⊢
      exact r.raw j e q
/-- an owned object is stored: it stands at no other name -/
theorem Rs.setOwn (r : Rs A B F H σ ε) {i : Nat} {p : Addr} {d : Dat} (ha : A p) (h : Ow B F H p d) (hn : ∀ j e, ε[j]? = some (.own e) → σ[j]? = some (some (.ref p)) → j = i) : Rs A B F H (σ.set i (some (.ref p))) (ε.set i (.own d)) where
  ex := r.ex
  len := by rw [List.length_set, List.length_set, r.len]
  val := fun j e q => by
    by_cases z : i = j
    · subst z
      have hi : i < ε.length := by
        have := (List.getElem?_eq_some_iff.mp q).1
        rwa [List.length_set] at this
      rw [List.getElem?_set_self hi] at q
      cases q
    · rw [List.getElem?_set_ne z] at q ⊢
      exact r.val j e q
  own := fun j e q => by
    by_cases z : i = j
    · subst z
      have hi : i < ε.length := by
        have := (List.getElem?_eq_some_iff.mp q).1
        rwa [List.length_set] at this
      rw [List.getElem?_set_self hi] at q
      cases q
      exact ⟨p, by rw [List.getElem?_set_self (by rw [← r.len]; exact hi)], ha, h⟩
    · rw [List.getElem?_set_ne z] at q ⊢
      exact r.own j e q
  sep := fun j k d1 d2 q h1 h2 h3 h4 => by
    by_cases z : i = j
    · by_cases z2 : i = k
      · rw [← z, ← z2]
      · subst z
        have hi : i < ε.length := by
          have := (List.getElem?_eq_some_iff.mp h1).1
          rwa [List.length_set] at this
        rw [List.getElem?_set_self (by rw [← r.len]; exact hi)] at h3
        cases h3
        rw [List.getElem?_set_ne z2] at h2 h4
        exact (hn k d2 h2 h4).symm
    · by_cases z2 : i = k
      · subst z2
        have hi : i < ε.length := by
          have := (List.getElem?_eq_some_iff.mp h2).1
          rwa [List.length_set] at this
        rw [List.getElem?_set_self (by rw [← r.len]; exact hi)] at h4
        cases h4
        rw [List.getElem?_set_ne z] at h1 h3
        exact hn j d1 h1 h3
      · rw [List.getElem?_set_ne z] at h1 h3
        rw [List.getElem?_set_ne z2] at h2 h4
        exact r.sep j k d1 d2 q h1 h2 h3 h4
  bx := r.bx
  new := r.new
  raw := fun j e q => by
    by_cases z : i = j
    · subst z
      have hi : i < ε.length := by
        have := (List.getElem?_eq_some_iff.mp q).1
        rwa [List.length_set] at this
      rw [List.getElem?_set_self hi] at q
      cases q
    · rw [List.getElem?_set_ne z] at q ⊢
      exact r.raw j e q
/-- slots forgotten -/
theorem Rs.wipe1 (r : Rs A B F H σ ε) (i : Nat) : Rs A B F H (σ.set i none) (ε.set i .off) where
  ex := r.ex
  len := by rw [List.length_set, List.length_set, r.len]
  val := fun j e q => by
    by_cases z : i = j
    · subst z
      have hi : i < ε.length := by
        have := (List.getElem?_eq_some_iff.mp q).1
        rwa [List.length_set] at this
      rw [List.getElem?_set_self hi] at q
      cases q
    · rw [List.getElem?_set_ne z] at q ⊢
      exact r.val j e q
  own := fun j e q => by
    by_cases z : i = j
    · subst z
      have hi : i < ε.length := by
        have := (List.getElem?_eq_some_iff.mp q).1
        rwa [List.length_set] at this
      rw [List.getElem?_set_self hi] at q
      cases q
    · rw [List.getElem?_set_ne z] at q ⊢
      exact r.own j e q
  sep := fun j k d1 d2 p h1 h2 h3 h4 => by
    by_cases z : i = j
    · subst z
      have hi : i < ε.length := by
        have := (List.getElem?_eq_some_iff.mp h1).1
        rwa [List.length_set] at this
      rw [List.getElem?_set_self hi] at h1
      cases h1
    · by_cases z2 : i = k
      · subst z2
        have hi : i < ε.length := by
          have := (List.getElem?_eq_some_iff.mp h2).1
          rwa [List.length_set] at this
        rw [List.getElem?_set_self hi] at h2
        cases h2
      · rw [List.getElem?_set_ne z] at h1 h3
        rw [List.getElem?_set_ne z2] at h2 h4
        exact r.sep j k d1 d2 p h1 h2 h3 h4
  bx := r.bx
  new := r.new
  raw := fun j e q => by
    by_cases z : i = j
    · subst z
      have hi : i < ε.length := by
        have := (List.getElem?_eq_some_iff.mp q).1
        rwa [List.length_set] at this
      rw [List.getElem?_set_self hi] at q
      cases q
    · rw [List.getElem?_set_ne z] at q ⊢
      exact r.raw j e q
def wipeD (ε : Ev) : List Nat → Ev
  | [] => ε
  | v :: vs => (wipeD ε vs).set v .off
theorem Rs.wipe (r : Rs A B F H σ ε) : ∀ vs : List Nat, Rs A B F H (L2.wipe σ vs) (wipeD ε vs)
  | [] => r
  | v :: vs => (r.wipe vs).wipe1 v
/-- the owned object at slot i is written -/
theorem Rs.write (r : Rs A B F H σ ε) {i : Nat} {p : Addr} {d d' : Dat} {o : HO} (hi : ε[i]? = some (.own d)) (hp : σ[i]? = some (some (.ref p))) (ho : Cont B F o d') : Rs A B F (upd H p o) σ (ε.set i (.own d')) ∧ Gr A B 0 F H F (upd H p o) := by
  obtain ⟨p', h1, ha, w⟩ := r.own i d hi
  rw [hp] at h1
  cases h1
  have il : i < ε.length := (List.getElem?_eq_some_iff.mp hi).1
  refine ⟨⟨r.ex.mut w.out, by rw [List.length_set, r.len], fun j e q => ?_, fun j e q => ?_, fun j k d1 d2 q h1 h2 h3 h4 => ?_, fun b hb => ?_, fun a h => ?_, fun j e q => ?_⟩, Gr.write r.ex ha w.out w.nb⟩
  · by_cases z : i = j
    · subst z
      rw [List.getElem?_set_self il] at q
      cases q
    · rw [List.getElem?_set_ne z] at q
      exact r.val j e q
  · by_cases z : i = j
    · subst z
      rw [List.getElem?_set_self il] at q
      cases q
      exact ⟨p, hp, ha, w.out, w.nb, o, upd_same, ho⟩
    · rw [List.getElem?_set_ne z] at q
      obtain ⟨p2, h1, h2, h3⟩ := r.own j e q
      refine ⟨p2, h1, h2, h3.out, h3.nb, ?_⟩
      obtain ⟨o2, h4, h5⟩ := h3.con
      refine ⟨o2, ?_, h5⟩
      rw [upd_ne]
      · exact h4
      · intro e2
        subst e2
        exact z (r.sep i j d e p2 hi q hp h1)
  · by_cases z : i = j
    · by_cases z2 : i = k
      · rw [← z, ← z2]
      · subst z
        rw [List.getElem?_set_ne z2] at h2
        exact r.sep i k d d2 q hi h2 h3 h4
    · by_cases z2 : i = k
      · subst z2
        rw [List.getElem?_set_ne z] at h1
        exact r.sep j i d1 d q h1 hi h3 h4
      · rw [List.getElem?_set_ne z] at h1
        rw [List.getElem?_set_ne z2] at h2
        exact r.sep j k d1 d2 q h1 h2 h3 h4
  · obtain ⟨h1, h2, u, h3⟩ := r.bx b hb
    exact ⟨h1, h2, u, by rw [upd_ne (fun z => w.nb (by rw [hb, z]))]; exact h3⟩
  · refine r.new a ?_
    by_cases z : a = p
    · subst z; rw [upd_same] at h; cases h
    · rwa [upd_ne z] at h
  · by_cases z : i = j
    · subst z
      rw [List.getElem?_set_self il] at q
      cases q
    · rw [List.getElem?_set_ne z] at q
      exact r.raw j e q
/-- the owned object at slot i is known from now on -/
theorem Rs.freezeAt (r : Rs A B F H σ ε) {i : Nat} {d : Dat} (hi : ε[i]? = some (.own d)) : ∃ p o, F p = none ∧ B ≠ some p ∧ H p = some o ∧ Cont B F o d ∧ Rs A B (L2.upd F p o) H σ (ε.set i (.val d)) ∧ Gr A B 0 F H (L2.upd F p o) H := by
  obtain ⟨p, hp, ha, w⟩ := r.own i d hi
  obtain ⟨o, ho, hc⟩ := w.con
  have g : Gr A B 0 F H (upd F p o) H := Gr.freeze r.ex ha w.out ho
  have il : i < ε.length := (List.getElem?_eq_some_iff.mp hi).1
  refine ⟨p, o, w.out, w.nb, ho, hc, ⟨g.sub, by rw [List.length_set, r.len], fun j e q => ?_, fun j e q => ?_, fun j k d1 d2 q h1 h2 h3 h4 => ?_, g.bF r.bx, r.new, fun j e q => ?_⟩, g⟩
  · by_cases z : i = j
    · subst z
      rw [List.getElem?_set_self il] at q
      cases q
      exact ⟨_, hp, Cont.rep upd_same (hc.mono g.ex)⟩
    · rw [List.getElem?_set_ne z] at q
      obtain ⟨v, h1, h2⟩ := r.val j e q
      exact ⟨v, h1, h2.mono g.ex⟩
  · by_cases z : i = j
    · subst z
      rw [List.getElem?_set_self il] at q
      cases q
    · rw [List.getElem?_set_ne z] at q
      obtain ⟨p2, h1, h2, h3⟩ := r.own j e q
      obtain ⟨o2, h4, h5⟩ := h3.con
      refine ⟨p2, h1, h2, ?_, h3.nb, o2, h4, h5.mono g.ex⟩
      rw [upd_ne]
      · exact h3.out
      · intro e2
        subst e2
        exact z (r.sep i j d e p2 hi q hp h1)
  · by_cases z : i = j
    · subst z
      rw [List.getElem?_set_self il] at h1
      cases h1
    · by_cases z2 : i = k
      · subst z2
        rw [List.getElem?_set_self il] at h2
        cases h2
      · rw [List.getElem?_set_ne z] at h1
        rw [List.getElem?_set_ne z2] at h2
        exact r.sep j k d1 d2 q h1 h2 h3 h4
  · by_cases z : i = j
    · subst z
      rw [List.getElem?_set_self il] at q
      cases q
    · rw [List.getElem?_set_ne z] at q
      exact r.raw j e q
theorem Rs.freeze (r : Rs A B F H σ ε) {i : Nat} {d : Dat} (hi : ε[i]? = some (.own d)) : ∃ F', Rs A B F' H σ (ε.set i (.val d)) ∧ Gr A B 0 F H F' H := by
  obtain ⟨p, o, _, _, _, _, h1, h2⟩ := r.freezeAt hi
  exact ⟨_, h1, h2⟩
end

/-! ### the lifted judgements -/
inductive Md | rep | sh | fr
def Res : Md → Option Addr → Hp → Hp → Hp → V → Dat → Prop
  | .rep, B, _, F', _, v, d => Rep B F' v d
  | .sh, B, _, F', H', v, d => Rep B F' v d ∨ ∃ p, v = .ref p ∧ Ow B F' H' p d
  | .fr, B, H, F', H', v, d => ∃ p, v = .ref p ∧ Ow B F' H' p d ∧ H p = none
abbrev TD := Ev → (Dat → Prop) → Prop
abbrev TTD := Ev → (Bool → Prop) → Prop
abbrev TAD := Ev → (List Dat → Prop) → Prop
def lift (m : Md) (c : Nat) (T : TD) : TE := fun σ H Q => ∃ (A : Addr → Prop) (B : Option Addr) (F : Hp) (ε : Ev) (P : Dat → Prop) (n : Nat),
  Rs A B F H σ ε ∧ BoxAt B H n ∧ n + c ≤ CAP ∧ T ε P ∧ ∀ v F' H' d, Gr NoA B c F H F' H' → Res m B H F' H' v d → P d → Q v H'
def liftT (c : Nat) (T : TTD) : TT := fun σ H Q => ∃ (A : Addr → Prop) (B : Option Addr) (F : Hp) (ε : Ev) (P : Bool → Prop) (n : Nat),
  Rs A B F H σ ε ∧ BoxAt B H n ∧ n + c ≤ CAP ∧ T ε P ∧ ∀ b F' H', Gr NoA B c F H F' H' → P b → Q b H'
def liftA (c : Nat) (T : TAD) : TA := fun σ H Q => ∃ (A : Addr → Prop) (B : Option Addr) (F : Hp) (ε : Ev) (P : List Dat → Prop) (n : Nat),
  Rs A B F H σ ε ∧ BoxAt B H n ∧ n + c ≤ CAP ∧ T ε P ∧ ∀ vs F' H' ds, Gr NoA B c F H F' H' → Reps B F' vs ds → P ds → Q vs H'
def PD (m : Md) (X : Cx) (c : Nat) (e : Expr) (T : TD) : Prop := PE X e (lift m c T)
def PTD (X : Cx) (c : Nat) (e : Expr) (T : TTD) : Prop := PT X e (liftT c T)
def PWD (X : Cx) (c : Nat) (e : Expr) (T : TTD) : Prop := PW X e (liftT c T)
def PAD (X : Cx) (c : Nat) (es : List Expr) (T : TAD) : Prop := PA X es (liftA c T)
structure DE where
  nx : Ev → Prop
  rt : Dat → Prop
  bk : Ev → Prop := fun _ => False
  ct : Ev → Prop := fun _ => False
abbrev TSD := DE → Ev → Prop
def liftS (c : Nat) (T : TSD) : TS := fun D σ H => ∃ (A : Addr → Prop) (B : Option Addr) (F : Hp) (ε : Ev) (E : DE) (n : Nat),
  Rs A B F H σ ε ∧ BoxAt B H n ∧ n + c ≤ CAP ∧ T E ε ∧
  (∀ F' H' σ' ε', Gr A B c F H F' H' → Rs A B F' H' σ' ε' → E.nx ε' → D.nx σ' H') ∧
  (∀ F' H' σ' ε', Gr A B c F H F' H' → Rs A B F' H' σ' ε' → E.bk ε' → D.bk σ' H') ∧
  (∀ F' H' σ' ε', Gr A B c F H F' H' → Rs A B F' H' σ' ε' → E.ct ε' → D.ct σ' H') ∧
  (∀ v F' H' d, Gr A B c F H F' H' → Rep B F' v d → E.rt d → D.rt v H')
def SD (X : Cx) (c : Nat) (st : Stmt) (T : TSD) : Prop := PS X st (liftS c T)
def SDs (X : Cx) (c : Nat) (st : List Stmt) (T : TSD) : Prop := PSs X st (liftS c T)

section
variable {X : Cx} {e a b : Expr} {m : Md} {c c1 c2 : Nat} {T Ta Tb : TD}
theorem pe_weak {t t' : TE} (h : PE X e t) (w : ∀ σ H Q, t' σ H Q → t σ H Q) : PE X e t' := ⟨fun pins s σ H Q I q => h.run pins s σ H Q I (w σ H Q q)⟩
theorem pt_weak {t t' : TT} (h : PT X e t) (w : ∀ σ H Q, t' σ H Q → t σ H Q) : PT X e t' := ⟨fun pins s σ H Q I q => h.run pins s σ H Q I (w σ H Q q)⟩
theorem pw_weak {t t' : TT} (h : PW X e t) (w : ∀ σ H Q, t' σ H Q → t σ H Q) : PW X e t' := ⟨fun wh pins s σ H Q I q => h.run wh pins s σ H Q I (w σ H Q q)⟩
theorem pa_weak {es : List Expr} {t t' : TA} (h : PA X es t) (w : ∀ σ H Q, t' σ H Q → t σ H Q) : PA X es t' := ⟨fun pos pins s σ H Q I q => h.run pos pins s σ H Q I (w σ H Q q)⟩
theorem ps_weak {st : Stmt} {t t' : TS} (h : PS X st t) (w : ∀ D σ H, t' D σ H → t D σ H) : PS X st t' := ⟨fun pins s σ H D I q => h.run pins s σ H D I (w D σ H q)⟩
theorem pss_weak {st : List Stmt} {t t' : TS} (h : PSs X st t) (w : ∀ D σ H, t' D σ H → t D σ H) : PSs X st t' := ⟨fun pins s σ H D I q => h.run pins s σ H D I (w D σ H q)⟩

theorem Res.sh_of {B : Option Addr} {H F' H' : Hp} {v : V} {d : Dat} : ∀ {m : Md}, Res m B H F' H' v d → Res .sh B H F' H' v d
  | .rep, h => .inl h
  | .sh, h => h
  | .fr, ⟨p, h1, h2, _⟩ => .inr ⟨p, h1, h2⟩
theorem Res.gr {B : Option Addr} {H F1 H1 F2 H2 : Hp} {v : V} {d : Dat} {c : Nat} (h : Res .sh B H F1 H1 v d) (g : Gr NoA B c F1 H1 F2 H2) : Res .sh B H F2 H2 v d := by
  rcases h with h | ⟨p, h1, h2⟩
  · exact .inl (h.mono g.ex)
  · exact .inr ⟨p, h1, h2.gr g⟩
/-- any mode may be read as shallow -/
theorem PD.toSh (h : PD m X c e T) : PD .sh X c e T := pe_weak h fun σ H Q ⟨A, B, F, ε, P, n, r, bx, hn, t, k⟩ => ⟨A, B, F, ε, P, n, r, bx, hn, t, fun v F' H' d g q => k v F' H' d g q.sh_of⟩
/-- a new object may be frozen at once -/
theorem PD.frz (h : PD .fr X c e T) : PD .rep X c e T := pe_weak h fun σ H Q ⟨A, B, F, ε, P, n, r, bx, hn, t, k⟩ => ⟨A, B, F, ε, P, n, r, bx, hn, t, fun v F' H' d g ⟨p, h1, h2, h3⟩ => by
  subst h1
  obtain ⟨o, ho, hc⟩ := h2.con
  refine k _ (upd F' p o) H' d ⟨g.ex.trans (Ex.new h2.out), fun a u q => ?_, fun a u q => ?_, g.keep, g.there, g.box⟩ (Cont.rep upd_same (hc.mono (Ex.new h2.out)))
  · by_cases z : a = p
    · subst z; rw [upd_same] at q; rw [← q]; exact ho
    · rw [upd_ne z] at q; exact g.sub a u q
  · by_cases z : a = p
    · subst z; exact .inr (.inl h3)
    · rw [upd_ne z] at q; exact g.new a u q⟩
theorem PD.cost (h : PD m X c e T) (hc : c ≤ c1) : PD m X c1 e T := pe_weak h fun σ H Q ⟨A, B, F, ε, P, n, r, bx, hn, t, k⟩ => ⟨A, B, F, ε, P, n, r, bx, by omega, t, fun v F' H' d g q => k v F' H' d (g.mono hc) q⟩
theorem PD.imp {T' : TD} (h : PD m X c e T) (hi : ∀ ε P, T' ε P → T ε P) : PD m X c e T' := pe_weak h fun σ H Q ⟨A, B, F, ε, P, n, r, bx, hn, t, k⟩ => ⟨A, B, F, ε, P, n, r, bx, hn, hi _ _ t, k⟩

/-! ### names and constants -/
def dVar (i : Nat) : TD := fun ε P => ∃ d, ε[i]? = some (.val d) ∧ P d
def dVarS (i : Nat) : TD := fun ε P => ∃ d, (ε[i]? = some (.val d) ∨ ε[i]? = some (.own d)) ∧ P d
def dC (d : Dat) : TD := fun _ P => P d
theorem pd_var {i : Nat} {x : Str} {pos : Pos} (h : PE X (.Name x pos) (tVar i)) : PD .rep X 0 (.Name x pos) (dVar i) := pe_weak h fun σ H Q ⟨A, B, F, ε, P, n, r, bx, hn, ⟨d, e, p⟩, k⟩ => by
  obtain ⟨v, h1, h2⟩ := r.val i d e
  exact ⟨v, h1, k v F H d (Gr.refl r.ex) h2 p⟩
theorem pd_varS {i : Nat} {x : Str} {pos : Pos} (h : PE X (.Name x pos) (tVar i)) : PD .sh X 0 (.Name x pos) (dVarS i) := pe_weak h fun σ H Q ⟨A, B, F, ε, P, n, r, bx, hn, ⟨d, e, p⟩, k⟩ => by
  rcases e with e | e
  · obtain ⟨v, h1, h2⟩ := r.val i d e
    exact ⟨v, h1, k v F H d (Gr.refl r.ex) (.inl h2) p⟩
  · obtain ⟨q, h1, _, h2⟩ := r.own i d e
    exact ⟨_, h1, k _ F H d (Gr.refl r.ex) (.inr ⟨q, rfl, h2⟩) p⟩
theorem pd_c {v : V} {d : Dat} (h : PE X e (tC v)) (r : ∀ B F, Rep B F v d) : PD .rep X 0 e (dC d) := pe_weak h fun σ H Q ⟨A, B, F, ε, P, n, rs, bx, hn, p, k⟩ => k v F H d (Gr.refl rs.ex) (r B F) p
theorem pd_int {i : Int} {j pos} : PD .rep X 0 (.Constant (.int i) j pos) (dC (.int i)) := pd_c pe_int fun _ _ => .int
theorem pd_bl {b : Bool} {j pos} : PD .rep X 0 (.Constant (.bool b) j pos) (dC (.bl b)) := pd_c pe_bl fun _ _ => .bl
theorem pd_non {j pos} : PD .rep X 0 (.Constant .none j pos) (dC .non) := pd_c pe_non fun _ _ => .non
theorem pd_str {x : Str} {j pos} : PD .rep X 0 (.Constant (.str x) j pos) (dC (.str x)) := pd_c pe_str fun _ _ => .str

/-! ### operators by values -/
/-- what an operation on values does, by data: from shallow operands to a result of mode m -/
def OpD (m : Md) (r : R2) (f : Dat → Dat → (Dat → Prop) → Prop) : Prop := ∀ (B : Option Addr) (F H Hb : Hp) (x y : V) (d e : Dat) (P : Dat → Prop) (Q : VK), Ex F H → (∀ a, H a = none → Hb a = none) → (∀ b, B = some b → ∃ o, H b = some o) → Res .sh B Hb F H x d → Res .sh B Hb F H y e → f d e P →
  (∀ v F' H' z, Gr NoA B 0 F H F' H' → Res m B Hb F' H' v z → P z → Q v H') → r x y H Q
def dOp (f : Dat → Dat → (Dat → Prop) → Prop) (Ta Tb : TD) : TD := fun ε P => Ta ε fun d => Tb ε fun e => f d e P
theorem op_run {r : R2} {f : Dat → Dat → (Dat → Prop) → Prop} (hr : OpD m r f) : ∀ σ H Q, lift m (c1 + c2) (dOp f Ta Tb) σ H Q → tOp r (lift .sh c1 Ta) (lift .sh c2 Tb) σ H Q := fun σ H Q ⟨A, B, F, ε, P, n, rs, bx, hn, t, k⟩ => by
  refine ⟨A, B, F, ε, _, n, rs, bx, by omega, t, fun x F1 H1 d g1 q1 t1 => ?_⟩
  refine ⟨A, B, F1, ε, _, n + c1, rs.gr g1, g1.box n bx, by omega, t1, fun y F2 H2 e g2 q2 t2 => ?_⟩
  have rs2 := (rs.gr g1).gr g2
  refine hr B F2 H2 H x y d e P Q rs2.ex (fun a h => g1.free (g2.free h)) (fun b hb => (rs2.bx b hb).2.2) (q1.gr g2) q2 t2 fun v F3 H3 z g3 q3 p3 => ?_
  exact k v F3 H3 z ((g1.trans g2).trans g3) q3 p3
theorem pd_op {op : Operator} {r : R2} {f : Dat → Dat → (Dat → Prop) → Prop} {pos : Pos} (ho : OpR X (binaryOp op) r) (hr : OpD m r f) (ha : PD .sh X c1 a Ta) (hb : PD .sh X c2 b Tb) : PD m X (c1 + c2) (.BinOp a op b pos) (dOp f Ta Tb) :=
  pe_weak (pe_op ho ha hb) (op_run hr)
theorem pd_cmp {op : CmpOp} {r : R2} {f : Dat → Dat → (Dat → Prop) → Prop} {pos : Pos} (ho : OpR X (compareOp op) r) (hr : OpD m r f) (ha : PD .sh X c1 a Ta) (hb : PD .sh X c2 b Tb) (hm : behindInMarks op b = false) : PD m X (c1 + c2) (.Compare a [op] [b] pos) (dOp f Ta Tb) :=
  pe_weak (pe_cmpR ho ha hb hm) (op_run hr)
theorem pd_ix {r : R2} {f : Dat → Dat → (Dat → Prop) → Prop} {pos : Pos} (ho : IxR X r) (hr : OpD m r f) (ha : PD .sh X c1 a Ta) (hb : PD .sh X c2 b Tb) (hs : PlainIx b) : PD m X (c1 + c2) (.Subscript a b pos) (dOp f Ta Tb) :=
  pe_weak (pe_ix ho ha hb hs) (op_run hr)
end
end DL
set_option maxRecDepth 100000
set_option maxHeartbeats 1000000
/-! DL2: statements, arguments, calls, a def's promise by data. -/
namespace DL
open PySem L2

section
variable {X : Cx} {st : Stmt} {rest body : List Stmt} {e a b t0 : Expr} {m : Md} {c c1 c2 c3 : Nat} {T Ta Tb : TD} {Ts Tr Tu : TSD} {Tt : TTD} {pos : Pos}

/-! ### blocks -/
def sNext : TSD := fun E ε => E.nx ε
def sSeq (T U : TSD) : TSD := fun E ε => T { E with nx := U E } ε
theorem SD.cost (h : SD X c st Ts) (hc : c ≤ c1) : SD X c1 st Ts := ps_weak h fun D σ H ⟨A, B, F, ε, E, n, r, bx, hn, t, k1, k2, k3, k4⟩ =>
  ⟨A, B, F, ε, E, n, r, bx, by omega, t, fun F' H' σ' ε' g => k1 F' H' σ' ε' (g.mono hc), fun F' H' σ' ε' g => k2 F' H' σ' ε' (g.mono hc), fun F' H' σ' ε' g => k3 F' H' σ' ε' (g.mono hc), fun v F' H' d g => k4 v F' H' d (g.mono hc)⟩
theorem SDs.cost (h : SDs X c rest Ts) (hc : c ≤ c1) : SDs X c1 rest Ts := pss_weak h fun D σ H ⟨A, B, F, ε, E, n, r, bx, hn, t, k1, k2, k3, k4⟩ =>
  ⟨A, B, F, ε, E, n, r, bx, by omega, t, fun F' H' σ' ε' g => k1 F' H' σ' ε' (g.mono hc), fun F' H' σ' ε' g => k2 F' H' σ' ε' (g.mono hc), fun F' H' σ' ε' g => k3 F' H' σ' ε' (g.mono hc), fun v F' H' d g => k4 v F' H' d (g.mono hc)⟩
theorem SDs.imp {T' : TSD} (h : SDs X c rest Ts) (hi : ∀ E ε, T' E ε → Ts E ε) : SDs X c rest T' := pss_weak h fun D σ H ⟨A, B, F, ε, E, n, r, bx, hn, t, k⟩ => ⟨A, B, F, ε, E, n, r, bx, hn, hi _ _ t, k⟩
theorem sds_nil : SDs X 0 [] sNext := pss_weak pss_nil fun D σ H ⟨A, B, F, ε, E, n, r, bx, hn, t, k1, _⟩ => k1 F H σ ε (Gr.refl r.ex) r t
theorem sds_one (h : SD X c st Ts) : SDs X c [st] Ts := pss_one h
theorem sds_cons (h : SD X c1 st Ts) (h2 : SDs X c2 rest Tr) : SDs X (c1 + c2) (st :: rest) (sSeq Ts Tr) :=
  pss_weak (pss_cons h h2) fun D σ H ⟨A, B, F, ε, E, n, r, bx, hn, t, k1, k2, k3, k4⟩ =>
    ⟨A, B, F, ε, { E with nx := Tr E }, n, r, bx, by omega, t, fun F1 H1 σ1 ε1 g1 r1 t1 => ⟨A, B, F1, ε1, E, n + c1, r1, g1.box n bx, by omega, t1,
      fun F' H' σ' ε' g => k1 F' H' σ' ε' (g1.trans g), fun F' H' σ' ε' g => k2 F' H' σ' ε' (g1.trans g), fun F' H' σ' ε' g => k3 F' H' σ' ε' (g1.trans g), fun v F' H' d g => k4 v F' H' d (g1.trans g)⟩,
      fun F' H' σ' ε' g => k2 F' H' σ' ε' (g.mono (by omega)), fun F' H' σ' ε' g => k3 F' H' σ' ε' (g.mono (by omega)), fun v F' H' d g => k4 v F' H' d (g.mono (by omega))⟩

/-! ### simple statements -/
def sPass : TSD := fun E ε => E.nx ε
theorem sd_pass : SD X 0 (.Pass pos) sPass := ps_weak ps_pass fun D σ H ⟨A, B, F, ε, E, n, r, bx, hn, t, k1, _⟩ => k1 F H σ ε (Gr.refl r.ex) r t
def sBreak : TSD := fun E ε => E.bk ε
theorem sd_break : SD X 0 (.Break pos) sBreak := ps_weak ps_break fun D σ H ⟨A, B, F, ε, E, n, r, bx, hn, t, _, k2, _⟩ => k2 F H σ ε (Gr.refl r.ex) r t
def sCont : TSD := fun E ε => E.ct ε
theorem sd_cont : SD X 0 (.Continue pos) sCont := ps_weak ps_continue fun D σ H ⟨A, B, F, ε, E, n, r, bx, hn, t, _, _, k3, _⟩ => k3 F H σ ε (Gr.refl r.ex) r t
def sNever : TSD := fun _ _ => False
theorem sd_never : SD X 0 st sNever := ps_weak ps_never fun D σ H ⟨A, B, F, ε, E, n, r, bx, hn, t, _⟩ => t
def sRet (T : TD) : TSD := fun E ε => T ε E.rt
theorem sd_ret (h : PD .rep X c e T) : SD X c (.Return (some e) pos) (sRet T) := ps_weak (ps_ret h) fun D σ H ⟨A, B, F, ε, E, n, r, bx, hn, t, _, _, _, k4⟩ =>
  ⟨A, B, F, ε, _, n, r, bx, hn, t, fun v F' H' d g q p => k4 v F' H' d g.any q p⟩
def sRetN : TSD := fun E _ => E.rt .non
theorem sd_retN : SD X 0 (.Return none pos) sRetN := ps_weak ps_retN fun D σ H ⟨A, B, F, ε, E, n, r, bx, hn, t, _, _, _, k4⟩ => k4 .non F H .non (Gr.refl r.ex) .non t
/-- an expression for what it does -/
def sDrop (T : TD) : TSD := fun E ε => T ε fun _ => E.nx ε
theorem sd_drop (h : PD m X c e T) (hs : swapsWith e none pos.line X.env = pure false := by rfl) : SD X c (.Expr e pos) (sDrop T) := ps_weak (ps_expr h hs) fun D σ H ⟨A, B, F, ε, E, n, r, bx, hn, t, k1, _⟩ =>
  ⟨A, B, F, ε, _, n, r, bx, hn, t, fun v F' H' d g q p => k1 F' H' σ ε g.any (r.gr g) p⟩
def sIf (Tt : TTD) (Ts Tu : TSD) : TSD := fun E ε => Tt ε fun b => if b = true then Ts E ε else Tu E ε
theorem sd_if {ss us : List Stmt} (ht : PTD X c1 t0 Tt) (hs : SDs X c2 ss Ts) (hu : SDs X c3 us Tu) : SD X (c1 + (c2 + c3)) (.If t0 ss us pos) (sIf Tt Ts Tu) :=
  ps_weak (ps_if ht hs hu) fun D σ H ⟨A, B, F, ε, E, n, r, bx, hn, t, k1, k2, k3, k4⟩ => by
    refine ⟨A, B, F, ε, _, n, r, bx, by omega, t, fun b F1 H1 g1 p => ?_⟩
    cases b with
    | true =>
      exact ⟨A, B, F1, ε, E, n + c1, r.gr g1, g1.box n bx, by omega, p, fun F' H' σ' ε' g => k1 F' H' σ' ε' ((g1.any.trans g).mono (by omega)), fun F' H' σ' ε' g => k2 F' H' σ' ε' ((g1.any.trans g).mono (by omega)),
        fun F' H' σ' ε' g => k3 F' H' σ' ε' ((g1.any.trans g).mono (by omega)), fun v F' H' d g => k4 v F' H' d ((g1.any.trans g).mono (by omega))⟩
    | false =>
      exact ⟨A, B, F1, ε, E, n + c1, r.gr g1, g1.box n bx, by omega, p, fun F' H' σ' ε' g => k1 F' H' σ' ε' ((g1.any.trans g).mono (by omega)), fun F' H' σ' ε' g => k2 F' H' σ' ε' ((g1.any.trans g).mono (by omega)),
        fun F' H' σ' ε' g => k3 F' H' σ' ε' ((g1.any.trans g).mono (by omega)), fun v F' H' d g => k4 v F' H' d ((g1.any.trans g).mono (by omega))⟩
/-- ghost: the owned list at slot i is from now on a value that stays -/
def sFrz (i : Nat) (T : TSD) : TSD := fun E ε => ∃ d, ε[i]? = some (.own d) ∧ T E (ε.set i (.val d))
theorem SD.frz (i : Nat) (h : SD X c st Ts) : SD X c st (sFrz i Ts) := ps_weak h fun D σ H ⟨A, B, F, ε, E, n, r, bx, hn, ⟨d, hd, t⟩, k1, k2, k3, k4⟩ => by
  obtain ⟨F', r', g0⟩ := r.freeze hd
  refine ⟨A, B, F', _, E, n, r', bx, hn, t, fun F2 H2 σ2 ε2 g => k1 F2 H2 σ2 ε2 ((g0.trans g).mono (by omega)), fun F2 H2 σ2 ε2 g => k2 F2 H2 σ2 ε2 ((g0.trans g).mono (by omega)), fun F2 H2 σ2 ε2 g => k3 F2 H2 σ2 ε2 ((g0.trans g).mono (by omega)), fun v F2 H2 d g => k4 v F2 H2 d ((g0.trans g).mono (by omega))⟩

/-! ### stores to names -/
def sAsg (i : Nat) (T : TD) : TSD := fun E ε => T ε fun d => E.nx (ε.set i (.val d))
def sAsgO (i : Nat) (T : TD) : TSD := fun E ε => T ε fun d => E.nx (ε.set i (.own d))
theorem asg_run {i : Nat} : ∀ D σ H, liftS c (sAsg i T) D σ H → tAsg (lift .rep c T) (gName i) D σ H := fun D σ H ⟨A, B, F, ε, E, n, r, bx, hn, t, k1, _⟩ =>
  ⟨A, B, F, ε, _, n, r, bx, hn, t, fun v F' H' d g q p => k1 F' H' _ _ g.any ((r.gr g).setVal q) p⟩
theorem asgO_run {i : Nat} : ∀ D σ H, liftS c (sAsgO i T) D σ H → tAsg (lift .fr c T) (gName i) D σ H := fun D σ H ⟨A, B, F, ε, E, n, r, bx, hn, t, k1, _⟩ =>
  ⟨A, B, F, ε, _, n, r, bx, hn, t, fun v F' H' d g ⟨p, hv, w, hp⟩ q => by
    subst hv
    refine k1 F' H' _ _ g.any ((r.gr g).setOwn (r.new p hp) w fun j e h1 h2 => ?_) q
    obtain ⟨p', h3, _, w'⟩ := r.own j e h1
    rw [h2] at h3
    cases h3
    obtain ⟨o, ho, _⟩ := w'.con
    rw [hp] at ho
    cases ho⟩
theorem sd_asg {i : Nat} {x : Str} {pos' : Pos} (h : PD .rep X c e T) (hN : X.N.Nodup) (hi : X.N[i]? = some x) (hx : Loc X.env.scope x) (hs : swapsWith e (some (.Name x pos')) pos.line X.env = pure false := by rfl)
    (hf : X.fn x = true ∨ X.env.scope.names.lookup x = some .local := by first | exact .inl rfl | exact .inr rfl | assumption) : SD X c (.Assign [.Name x pos'] e pos) (sAsg i T) :=
  ps_weak (ps_set hN hi hx h hs hf) asg_run
theorem sd_asgO {i : Nat} {x : Str} {pos' : Pos} (h : PD .fr X c e T) (hN : X.N.Nodup) (hi : X.N[i]? = some x) (hx : Loc X.env.scope x) (hs : swapsWith e (some (.Name x pos')) pos.line X.env = pure false := by rfl)
    (hf : X.fn x = true ∨ X.env.scope.names.lookup x = some .local := by first | exact .inl rfl | exact .inr rfl | assumption) : SD X c (.Assign [.Name x pos'] e pos) (sAsgO i T) :=
  ps_weak (ps_set hN hi hx h hs hf) asgO_run

/-! ### argument lists -/
def aNil : TAD := fun _ P => P []
def aCons (T : TD) (U : TAD) : TAD := fun ε P => T ε fun d => U ε fun ds => P (d :: ds)
theorem pad_nil : PAD X 0 [] aNil := pa_weak pa_nil fun σ H Q ⟨A, B, F, ε, P, n, r, bx, hn, t, k⟩ => k [] F H [] (Gr.refl r.ex) .nil t
theorem pad_cons {es : List Expr} {U : TAD} (h : PD .rep X c1 e T) (h2 : PAD X c2 es U) (hs : starEach (e :: es) X.env = (false, eval e X.env) :: starEach es X.env := by rfl) : PAD X (c1 + c2) (e :: es) (aCons T U) := pa_weak (pa_cons h h2 hs) fun σ H Q ⟨A, B, F, ε, P, n, r, bx, hn, t, k⟩ =>
  ⟨A, B, F, ε, _, n, r, bx, by omega, t, fun v F1 H1 d g1 q1 t1 => ⟨A, B, F1, ε, _, n + c1, r.gr g1, g1.box n bx, by omega, t1, fun vs F2 H2 ds g2 q2 p => k (v :: vs) F2 H2 (d :: ds) (g1.trans g2) (.cons (q1.mono g2.ex) q2) p⟩⟩

/-! ### several values, each with its mode: for stores to several names, for built-ins -/
def frs : List Md → List V → List V
  | .fr :: ms, v :: vs => v :: frs ms vs
  | _ :: ms, _ :: vs => frs ms vs
  | _, _ => []
inductive ResL (B : Option Addr) (Hb F H : Hp) : List Md → List V → List Dat → Prop
  | nil : ResL B Hb F H [] [] []
  | cons {m ms v vs d ds} : Res m B Hb F H v d → (m = .fr → v ∉ frs ms vs) → ResL B Hb F H ms vs ds → ResL B Hb F H (m :: ms) (v :: vs) (d :: ds)
def liftM (ms : List Md) (c : Nat) (T : TAD) : TA := fun σ H Q => ∃ (A : Addr → Prop) (B : Option Addr) (F : Hp) (ε : Ev) (P : List Dat → Prop) (n : Nat),
  Rs A B F H σ ε ∧ BoxAt B H n ∧ n + c ≤ CAP ∧ T ε P ∧ ∀ vs F' H' ds, Gr NoA B c F H F' H' → ResL B H F' H' ms vs ds → P ds → Q vs H'
def PMD (ms : List Md) (X : Cx) (c : Nat) (es : List Expr) (T : TAD) : Prop := PA X es (liftM ms c T)
theorem pmd_nil : PMD [] X 0 [] aNil := pa_weak pa_nil fun σ H Q ⟨A, B, F, ε, P, n, r, bx, hn, t, k⟩ => k [] F H [] (Gr.refl r.ex) .nil t
theorem Res.grM {B : Option Addr} {Hb F1 H1 F2 H2 : Hp} {v : V} {d : Dat} {c : Nat} : ∀ {m : Md}, Res m B Hb F1 H1 v d → Gr NoA B c F1 H1 F2 H2 → Res m B Hb F2 H2 v d
  | .rep, h, g => Rep.mono g.ex h
  | .sh, h, g => Res.gr h g
  | .fr, ⟨p, h1, h2, h3⟩, g => ⟨p, h1, h2.gr g, h3⟩
theorem frs_fresh {B : Option Addr} {Hb F H : Hp} : ∀ {ms vs ds}, ResL B Hb F H ms vs ds → ∀ v ∈ frs ms vs, ∃ p, v = .ref p ∧ Hb p = none
  | _, _, _, .nil, v, h => by simp [frs] at h
  | .fr :: ms, _ :: vs, _ :: ds, .cons r _ t, v, h => by
    rcases List.mem_cons.mp (show v ∈ _ :: frs ms vs from h) with e | h
    · obtain ⟨p, h1, _, h3⟩ := r
      exact ⟨p, e.trans h1, h3⟩
    · exact frs_fresh t v h
  | .rep :: ms, _ :: vs, _ :: ds, .cons r _ t, v, h => frs_fresh t v h
  | .sh :: ms, _ :: vs, _ :: ds, .cons r _ t, v, h => frs_fresh t v h
theorem pmd_cons {ms : List Md} {es : List Expr} {U : TAD} (h : PD m X c1 e T) (h2 : PMD ms X c2 es U) (hs : starEach (e :: es) X.env = (false, eval e X.env) :: starEach es X.env := by rfl) : PMD (m :: ms) X (c1 + c2) (e :: es) (aCons T U) := pa_weak (pa_cons h h2 hs) fun σ H Q ⟨A, B, F, ε, P, n, r, bx, hn, t, k⟩ =>
  ⟨A, B, F, ε, _, n, r, bx, by omega, t, fun v F1 H1 d g1 q1 t1 => ⟨A, B, F1, ε, _, n + c1, r.gr g1, g1.box n bx, by omega, t1, fun vs F2 H2 ds g2 q2 p => by
    refine k (v :: vs) F2 H2 (d :: ds) (g1.trans g2) (.cons (q1.grM g2) (fun em hv => ?_) ?_) p
    · subst em
      obtain ⟨p, h1, h2, _⟩ := q1
      obtain ⟨p', h3, h4⟩ := frs_fresh q2 v hv
      rw [h1] at h3
      cases h3
      obtain ⟨o, ho, _⟩ := h2.con
      rw [h4] at ho
      cases ho
    · have up : ∀ {ms vs ds}, ResL B H1 F2 H2 ms vs ds → ResL B H F2 H2 ms vs ds := by
        intro ms vs ds z
        induction z with
        | nil => exact .nil
        | @cons m ms v vs d ds r1 r2 _ ih =>
          refine .cons ?_ r2 ih
          cases m with
          | rep => exact r1
          | sh => exact r1
          | fr =>
            obtain ⟨p, h1, h2, h3⟩ := r1
            exact ⟨p, h1, h2, g1.free h3⟩
      exact up q2⟩⟩
def setsV : List Nat → List V → L2.St → L2.St
  | i :: is, v :: vs, σ => setsV is vs (σ.set i (some v))
  | _, _, σ => σ
def setM : List Nat → List Md → List Dat → Ev → Ev
  | i :: is, .fr :: ms, d :: ds, ε => setM is ms ds (ε.set i (.own d))
  | i :: is, _ :: ms, d :: ds, ε => setM is ms ds (ε.set i (.val d))
  | _, _, _, ε => ε
/-- no mode is shallow -/
def noSh : List Md → Bool
  | [] => true
  | .sh :: _ => false
  | _ :: ms => noSh ms
theorem sets_ok {A : Addr → Prop} {B : Option Addr} {Hb F H : Hp} (hA : ∀ a, Hb a = none → A a) : ∀ (is : List Nat) {ms : List Md} {vs : List V} {ds : List Dat} {σ : L2.St} {ε : Ev}, noSh ms = true → Rs A B F H σ ε → ResL B Hb F H ms vs ds →
    (∀ v ∈ frs ms vs, ∀ (j : Nat) (e : Dat), ε[j]? = some (Sl.own e) → σ[j]? = some (some v) → False) → Rs A B F H (setsV is vs σ) (setM is ms ds ε)
  | [], _, _, _, _, _, _, r, _, _ => by
    cases ‹List V› <;> cases ‹List Md› <;> cases ‹List Dat› <;> exact r
  | i :: is, [], _, _, _, _, _, r, .nil, _ => r
  | i :: is, .rep :: ms, v :: vs, d :: ds, σ, ε, hs, r, .cons q _ t, h => by
    refine sets_ok hA is (show noSh ms = true from hs) (r.setVal q) t fun w hw j e h1 h2 => ?_
    by_cases z : i = j
    · subst z
      have hi : i < ε.length := by
        have := (List.getElem?_eq_some_iff.mp h1).1
        rwa [List.length_set] at this
      rw [List.getElem?_set_self hi] at h1
      cases h1
    · rw [List.getElem?_set_ne z] at h1 h2
      exact h w hw j e h1 h2
  | i :: is, .fr :: ms, v :: vs, d :: ds, σ, ε, hs, r, .cons q nf t, h => by
    obtain ⟨p, hv, w, hp⟩ := q
    subst hv
    refine sets_ok hA is (show noSh ms = true from hs) (r.setOwn (hA p hp) w fun j e h1 h2 => (h _ (List.mem_cons_self) j e h1 h2).elim) t fun w' hw j e h1 h2 => ?_
    by_cases z : i = j
    · subst z
      have hi : i < σ.length := by
        have := (List.getElem?_eq_some_iff.mp h2).1
        rwa [List.length_set] at this
      rw [List.getElem?_set_self hi] at h2
      cases h2
      exact nf rfl hw
    · rw [List.getElem?_set_ne z] at h1 h2
      exact h w' (List.mem_cons_of_mem _ hw) j e h1 h2
def sMul (is : List Nat) (ms : List Md) (T : TAD) : TSD := fun E ε => T ε fun ds => E.nx (setM is ms ds ε)
theorem mul_end {A : Addr → Prop} {B : Option Addr} {F H F' H' : Hp} {σ : L2.St} {ε : Ev} {is : List Nat} {ms : List Md} {vs : List V} {ds : List Dat} (hs : noSh ms = true) (r : Rs A B F H σ ε) (g : Gr NoA B c F H F' H') (q : ResL B H F' H' ms vs ds) : Rs A B F' H' (setsV is vs σ) (setM is ms ds ε) :=
  sets_ok r.new is hs (r.gr g) q fun v hv j e h1 h2 => by
    obtain ⟨p, hp, hn⟩ := frs_fresh q v hv
    subst hp
    obtain ⟨p', h3, _, w⟩ := r.own j e h1
    rw [h2] at h3
    cases h3
    obtain ⟨o, ho, _⟩ := w.con
    rw [hn] at ho
    cases ho
theorem ResL.len {B : Option Addr} {Hb F H : Hp} : ∀ {ms vs ds}, ResL B Hb F H ms vs ds → vs.length = ms.length ∧ ds.length = ms.length
  | _, _, _, .nil => ⟨rfl, rfl⟩
  | _, _, _, .cons _ _ t => by simp [t.len]
/-- a, b = e1, e2, both names local -/
theorem sd_par {i j : Nat} {m1 m2 : Md} {x y : Str} {T : TAD} {px py pt : Pos} {kt k2 pt2} (h : PMD [m1, m2] X c [a, b] T) (hm : noSh [m1, m2] = true) (hc : X.calm = true) (hN : X.N.Nodup) (hi : X.N[i]? = some x) (hj : X.N[j]? = some y) (hij : i ≠ j)
    (hx : X.env.scope.names.lookup x = some .local) (hy : X.env.scope.names.lookup y = some .local)
    (hw : swappedStores [.Tuple [.Name x px, .Name y py] kt pt] (.Tuple [a, b] k2 pt2) X.env = pure (some [x, y])) (hs : swapsWithSole [.Tuple [.Name x px, .Name y py] kt pt] (.Tuple [a, b] k2 pt2) pos.line X.env = pure false := by rfl) :
    SD X c (.Assign [.Tuple [.Name x px, .Name y py] kt pt] (.Tuple [a, b] k2 pt2) pos) (sMul [i, j] [m1, m2] T) :=
  ps_weak (ps_par hc hN hi hj hij hx hy h hw hs) fun D σ H ⟨A, B, F, ε, E, n, r, bx, hn, t, k1, _⟩ => ⟨A, B, F, ε, _, n, r, bx, hn, t, fun vs F' H' ds g q p => by
    have := mul_end (is := [i, j]) hm r g q
    cases q with
    | cons q1 q2 q3 =>
      cases q3 with
      | cons q4 q5 q6 =>
        cases q6
        exact ⟨_, _, rfl, k1 F' H' _ _ g.any this p⟩⟩
/-- several names through a tuple -/
def gNames : List Nat → TGs
  | [] => gNil
  | i :: is => gCons (gName i) (gNames is)
theorem gNames_run : ∀ (is : List Nat) {vs : List V} {σ : L2.St} {H : Hp} {Q : L2.St → Hp → Prop}, vs.length = is.length → Q (setsV is vs σ) H → gNames is vs σ H Q
  | [], [], _, _, _, _, h => ⟨rfl, h⟩
  | i :: is, v :: vs, σ, H, Q, hl, h => ⟨v, vs, rfl, gNames_run is (by simpa using hl) h⟩
theorem sd_mul {is : List Nat} {ms : List Md} {T : TAD} {ts es : List Expr} {kt k2 : Nat} {pt pt2 : Pos} {xN : Nat} (h : PMD ms X c es T) (hm : noSh ms = true) (hl : ms.length = is.length) (hc : X.calm = true) (hg : PGs X ts (gNames is)) (hlt : (assignEach ts X.env).length = is.length := by rfl) (hst : (assignEach ts X.env).findIdx? (·.1) = none := by rfl)
    (hs : swapsWithSole [.Tuple ts kt pt] (.Tuple es k2 pt2) pos.line X.env = pure false := by rfl) (hw : swappedStores [.Tuple ts kt pt] (.Tuple es k2 pt2) X.env = pure none := by rfl)
    (h1 : (assignEach [.Tuple ts kt pt] X.env).map (·.2) = [assign (.Tuple ts kt pt) X.env] := by rfl) (hsz : is.length ≤ sizeLine := by decide) :
    SD X c (.Assign [.Tuple ts kt pt] (.Tuple es k2 pt2) pos) (sMul is ms T) :=
  ps_weak (ps_asg (pe_tup h) (pg_tup hc hg hlt hst) hs hw h1) fun D σ H ⟨A, B, F, ε, E, n, r, bx, hn, t, k1, _⟩ => ⟨A, B, F, ε, _, n, r, bx, hn, t, fun vs F' H' ds g q p => by
    have hv := q.len
    refine ⟨by rw [hv.1, hl]; exact hsz, fun p0 hp => ?_⟩
    refine ⟨p0, vs, rfl, SqT.of upd_same, by rw [hv.1, hl], gNames_run is (by rw [hv.1, hl]) ?_⟩
    have g0 : Gr NoA B 0 F' H' F' (upd H' p0 (.tup vs)) := Gr.alloc0 (r.gr g).ex hp
    have up : ∀ {ms vs' ds}, ResL B H F' H' ms vs' ds → ResL B H F' (upd H' p0 (.tup vs)) ms vs' ds := by
      intro ms vs' ds z
      induction z with
      | nil => exact .nil
      | cons r1 r2 _ ih => exact .cons (r1.grM g0) r2 ih
    exact k1 F' _ _ _ (g.trans g0).any (mul_end hm r (g.trans g0) (up q)) p⟩
end
end DL
set_option maxRecDepth 100000
set_option maxHeartbeats 1000000
/-! DL3: targets, walks, loops, comprehensions. -/
namespace DL
open PySem L2

/-! ### wiping -/
theorem wipe_get (σ : L2.St) : ∀ (vs : List Nat) (j : Nat), (L2.wipe σ vs)[j]? = if j ∈ vs then (if j < σ.length then some none else none) else σ[j]?
  | [], j => by simp [L2.wipe]
  | v :: vs, j => by
    show ((L2.wipe σ vs).set v none)[j]? = _
    rw [List.getElem?_set]
    by_cases h : v = j
    · subst h
      simp [wipe_length]
    · rw [if_neg h, wipe_get σ vs j]
      have : (j ∈ v :: vs) ↔ j ∈ vs := by simp [Ne.symm h]
      simp only [this]
theorem wipe_set {σ : L2.St} {i : Nat} {x : Option V} {vs : List Nat} (h : i ∈ vs) : L2.wipe (σ.set i x) vs = L2.wipe σ vs := by
  apply List.ext_getElem?
  intro j
  rw [wipe_get, wipe_get, List.length_set]
  by_cases hj : j ∈ vs
  · simp [hj]
  · have : i ≠ j := fun e => hj (e ▸ h)
    simp [hj, List.getElem?_set_ne this]
theorem wipe_wipe {σ : L2.St} {vs : List Nat} : L2.wipe (L2.wipe σ vs) vs = L2.wipe σ vs := by
  apply List.ext_getElem?
  intro j
  rw [wipe_get, wipe_get, wipe_length]
  by_cases hj : j ∈ vs <;> simp [hj]

/-! ### targets -/
abbrev GD := Dat → Ev → (Ev → Prop) → Prop
abbrev GsD := List Dat → Ev → (Ev → Prop) → Prop
/-- a value that a walk hands out: in the weak case a pair that nobody else knows -/
def RepX (w : Bool) (B : Option Addr) (F H : Hp) (v : V) (d : Dat) : Prop := Rep B F v d ∨ (w = true ∧ ∃ T xs es, v = .ref T ∧ H T = some (.tup xs) ∧ d = .tup es ∧ Reps B F xs es)
theorem RepX.strict {B : Option Addr} {F H : Hp} {v : V} {d : Dat} (h : RepX false B F H v d) : Rep B F v d := by
  rcases h with h | ⟨h, _⟩
  · exact h
  · cases h
def liftG (w : Bool) (is : List Nat) (G : GD) : TG := fun v σ H Q => ∃ (A : Addr → Prop) (B : Option Addr) (F : Hp) (ε : Ev) (d : Dat) (R : Ev → Prop),
  Rs A B F H σ ε ∧ RepX w B F H v d ∧ G d ε R ∧ ∀ σ' ε', Rs A B F H σ' ε' → (∀ vs : List Nat, (∀ i ∈ is, i ∈ vs) → L2.wipe σ' vs = L2.wipe σ vs) → R ε' → Q σ' H
def liftGs (is : List Nat) (G : GsD) : TGs := fun vs σ H Q => ∃ (A : Addr → Prop) (B : Option Addr) (F : Hp) (ε : Ev) (ds : List Dat) (R : Ev → Prop),
  Rs A B F H σ ε ∧ Reps B F vs ds ∧ G ds ε R ∧ ∀ σ' ε', Rs A B F H σ' ε' → (∀ vs : List Nat, (∀ i ∈ is, i ∈ vs) → L2.wipe σ' vs = L2.wipe σ vs) → R ε' → Q σ' H
def PGD (w : Bool) (X : Cx) (is : List Nat) (tg : Expr) (G : GD) : Prop := PG X tg (liftG w is G)
def PGsD (X : Cx) (is : List Nat) (ts : List Expr) (G : GsD) : Prop := PGs X ts (liftGs is G)
section
variable {X : Cx} {tg : Expr} {pos : Pos} {is js : List Nat} {G : GD} {Gs : GsD}
theorem pg_weak {g g' : TG} (h : PG X tg g) (w : ∀ v σ H Q, g' v σ H Q → g v σ H Q) : PG X tg g' := ⟨fun pins s σ H v u Q I r q => h.run pins s σ H v u Q I r (w v σ H Q q)⟩
theorem pgs_weak {ts : List Expr} {g g' : TGs} (h : PGs X ts g) (w : ∀ v σ H Q, g' v σ H Q → g v σ H Q) : PGs X ts g' := ⟨fun pins s σ H v u Q I r q => h.run pins s σ H v u Q I r (w v σ H Q q)⟩
def gN (i : Nat) : GD := fun d ε R => R (ε.set i (.val d))
theorem pgd_name {i : Nat} {x : Str} (hN : X.N.Nodup) (hi : X.N[i]? = some x) (hx : Loc X.env.scope x) (hf : X.fn x = true ∨ X.env.scope.names.lookup x = some .local := by first | exact .inl rfl | exact .inr rfl | assumption) : PGD false X [i] (.Name x pos) (gN i) :=
  pg_weak (pg_name hN hi hx hf) fun v σ H Q ⟨A, B, F, ε, d, R, r, rd, t, k⟩ => k _ _ (r.setVal rd.strict) (fun vs hv => wipe_set (hv i (by simp))) t
def gNilD : GsD := fun ds ε R => ds = [] ∧ R ε
def gConsD (G : GD) (Gs : GsD) : GsD := fun ds ε R => ∃ d r, ds = d :: r ∧ G d ε fun ε' => Gs r ε' R
theorem pgsd_nil : PGsD X [] [] gNilD := pgs_weak pgs_nil fun vs σ H Q ⟨A, B, F, ε, ds, R, r, rd, ⟨e, t⟩, k⟩ => by
  subst e
  cases rd
  exact ⟨rfl, k σ ε r (fun _ _ => rfl) t⟩
theorem pgsd_cons {e : Expr} {es : List Expr} (h1 : PGD false X is e G) (h2 : PGsD X js es Gs) (hs : (assignEach (e :: es) X.env).map (·.2) = assign e X.env :: (assignEach es X.env).map (·.2) := by rfl) : PGsD X (is ++ js) (e :: es) (gConsD G Gs) :=
  pgs_weak (pgs_cons h1 h2 hs) fun vs σ H Q ⟨A, B, F, ε, ds, R, r, rd, ⟨d, rr, e, t⟩, k⟩ => by
    subst e
    cases rd with
    | cons r1 r2 =>
      refine ⟨_, _, rfl, A, B, F, ε, d, _, r, .inl r1, t, fun σ1 ε1 rs1 w1 t1 => ?_⟩
      exact ⟨A, B, F, ε1, rr, R, rs1, r2, t1, fun σ2 ε2 rs2 w2 t2 => k σ2 ε2 rs2 (fun vs hv => (w2 vs fun i hi => hv i (List.mem_append_right _ hi)).trans (w1 vs fun i hi => hv i (List.mem_append_left _ hi))) t2⟩
def gTupD (n : Nat) (Gs : GsD) : GD := fun d ε R => ∃ ds, d = .tup ds ∧ ds.length = n ∧ Gs ds ε R
theorem pgd_tup {w : Bool} {es : List Expr} {k n : Nat} (hc : X.calm = true) (h : PGsD X is es Gs) (hn : (assignEach es X.env).length = n := by rfl) (hst : (assignEach es X.env).findIdx? (·.1) = none := by rfl) : PGD w X is (.Tuple es k pos) (gTupD n Gs) :=
  pg_weak (pg_tup hc h hn hst) fun v σ H Q ⟨A, B, F, ε, d, R, r, rd, ⟨ds, e, hl, t⟩, k⟩ => by
    subst e
    rcases rd with rd | ⟨_, T, xs, es, rfl, hT, he, h2⟩
    · cases rd with
      | tup h1 hd h2 => exact ⟨_, _, rfl, KT.sq ⟨_, r.ex _ _ h1, hd⟩, h2.length.trans hl, A, B, F, ε, ds, R, r, h2, t, k⟩
    · cases he
      exact ⟨_, _, rfl, SqT.of hT, h2.length.trans hl, A, B, F, ε, ds, R, r, h2, t, k⟩
end

/-! ### walks -/
def YD (w : Bool) (B : Option Addr) (F : Hp) (ds : List Dat) : Nat → Hp → V → Hp → Prop := fun i H x H' => ∃ d, ds[i]? = some d ∧
  ((H' = H ∧ Rep B F x d) ∨ (w = true ∧ ∃ T xs es, x = .ref T ∧ H T = none ∧ H' = upd H T (.tup xs) ∧ d = .tup es ∧ Reps B F xs es))
def WalkD (w : Bool) (B : Option Addr) (J : It) (F : Hp) (ds : List Dat) : Prop := Walk J ds.length (fun H => Ex F H) (YD w B F ds)
abbrev TID := Ev → (List Dat → Prop) → Prop
def liftI (w : Bool) (c : Nat) (T : TID) : TI := fun σ H R => ∃ (A : Addr → Prop) (B : Option Addr) (F : Hp) (ε : Ev) (P : List Dat → Prop) (n : Nat),
  Rs A B F H σ ε ∧ BoxAt B H n ∧ n + c ≤ CAP ∧ T ε P ∧ ∀ J F' H' ds, Gr NoA B c F H F' H' → WalkD w B J F' ds → P ds → R J H'
def PID (w : Bool) (X : Cx) (c : Nat) (tg iter : Expr) (T : TID) : Prop := PI X tg iter (liftI w c T)
section
variable {X : Cx} {tg iter e a b : Expr} {pos : Pos} {c c1 c2 : Nat} {T Ta Tb : TD}
theorem pi_weak {w w' : TI} (h : PI X tg iter w) (k : ∀ σ H R, w' σ H R → w σ H R) : PI X tg iter w' := ⟨fun pins s σ H R I q => h.run pins s σ H R I (k σ H R q)⟩
/-- a list that stays -/
def iL (T : TD) : TID := fun ε P => T ε fun d => ∃ ds, d = .lst ds ∧ P ds
def iT (T : TD) : TID := fun ε P => T ε fun d => ∃ ds, d = .tup ds ∧ P ds
theorem pid_list (h : PD .rep X c e T) : PID false X c tg e (iL T) := pi_weak (pi_list h) fun σ H R ⟨A, B, F, ε, P, n, r, bx, hn, t, k⟩ =>
  ⟨A, B, F, ε, _, n, r, bx, hn, t, fun v F' H' d g q ⟨ds, e1, p⟩ => by
    subst e1
    cases q with
    | @lst a vs xs h1 h2 =>
      refine ⟨a, rfl, ⟨_, SqL.of (g.sub _ _ h1)⟩, k _ F' H' ds g ?_ p⟩
      have w := walk_list (K := X.K) (a := a) (xs := vs)
      unfold WalkD
      rw [← h2.length]
      exact w.mono (fun H'' e => SqL.of (e _ _ h1)) fun i H'' x H3 hi hg y => by
        obtain ⟨d, hd, rd⟩ := h2.getV y.2
        exact ⟨d, hd, .inl ⟨y.1, rd⟩⟩⟩
theorem pid_tup (h : PD .rep X c e T) : PID false X c tg e (iT T) := pi_weak (pi_tup h) fun σ H R ⟨A, B, F, ε, P, n, r, bx, hn, t, k⟩ =>
  ⟨A, B, F, ε, _, n, r, bx, hn, t, fun v F' H' d g q ⟨ds, e1, p⟩ => by
    subst e1
    cases q with
    | @tup a vs xs o h1 hdd h2 =>
      refine ⟨a, rfl, ⟨_, KT.sq ⟨_, g.sub _ _ h1, hdd⟩⟩, k _ F' H' ds g ?_ p⟩
      have w := walk_tup (K := X.K) (a := a) (xs := vs)
      unfold WalkD
      rw [← h2.length]
      exact w.mono (fun H'' e => KT.sq ⟨_, e _ _ h1, hdd⟩) fun i H'' x H3 hi hg y => by
        obtain ⟨d, hd, rd⟩ := h2.getV y.2
        exact ⟨d, hd, .inl ⟨y.1, rd⟩⟩⟩
/-- range(n), range(a, b) -/
def rngD (lo : Int) (n : Nat) : List Dat := (List.range n).map fun i => .int (lo + (i : Nat))
def iR1 (T : TAD) : TID := fun ε P => T ε fun ds => ∃ j : Int, ds = [.int j] ∧ j < 2 ^ 62 ∧ -(2 ^ 62) ≤ j ∧ P (rngD 0 j.toNat)
def iR2 (T : TAD) : TID := fun ε P => T ε fun ds => ∃ i j : Int, ds = [.int i, .int j] ∧ (-(2 ^ 62) ≤ i ∧ i < 2 ^ 62 ∧ -(2 ^ 62) ≤ j ∧ j < 2 ^ 62) ∧ P (rngD i (j - i).toNat)
theorem walk_rngD {B : Option Addr} {F : Hp} {lo : Int} {n : Nat} : WalkD false B (Itr lo n) F (rngD lo n) := by
  unfold WalkD
  have hl : (rngD lo n).length = n := by simp [rngD]
  rw [hl]
  exact (walk_range (lo := lo) (n := n)).mono (fun _ _ => trivial) fun i H x H' hi _ y => ⟨.int (lo + (i : Nat)), by simp [rngD, hi], .inl ⟨y.1, by rw [y.2]; exact .int⟩⟩
theorem pid_range1 {p : Pos} {Ta : TAD} {arg : Expr} (hg : Gl X "range") (hm : X.mg "range" = none) (h : PAD X c [arg] Ta) (hse : starEach [arg] X.env = [(false, eval arg X.env)] := by rfl) : PID false X c tg (.Call (.Name "range" p) [arg] [] pos) (iR1 Ta) := pi_weak (pi_range1 hg hm h (hs := hse)) fun σ H R ⟨A, B, F, ε, P, n, r, bx, hn, t, k⟩ =>
  ⟨A, B, F, ε, _, n, r, bx, hn, t, fun vs F' H' ds g q ⟨j, e1, h1, h2, p⟩ => by
    subst e1
    cases q with
    | cons q1 q2 =>
      cases q1
      cases q2
      exact ⟨j, rfl, h2, h1, k _ F' H' _ g walk_rngD p⟩⟩
theorem pid_range2 {p : Pos} {Ta : TAD} {arg arg2 : Expr} (hg : Gl X "range") (hm : X.mg "range" = none) (h : PAD X c [arg, arg2] Ta) (hse : starEach [arg, arg2] X.env = [(false, eval arg X.env), (false, eval arg2 X.env)] := by rfl) (hse2 : starEach [arg2] X.env = [(false, eval arg2 X.env)] := by rfl) : PID false X c tg (.Call (.Name "range" p) [arg, arg2] [] pos) (iR2 Ta) := pi_weak (pi_range2 hg hm h (hs := hse) (hs2 := hse2)) fun σ H R ⟨A, B, F, ε, P, n, r, bx, hn, t, k⟩ =>
  ⟨A, B, F, ε, _, n, r, bx, hn, t, fun vs F' H' ds g q ⟨i, j, e1, h1, p⟩ => by
    subst e1
    cases q with
    | cons q1 q2 =>
      cases q1
      cases q2 with
      | cons q3 q4 =>
        cases q3
        cases q4
        exact ⟨i, j, rfl, h1, k _ F' H' _ g walk_rngD p⟩⟩
end

/-! ### for -/
section
variable {w : Bool} {X : Cx} {tg iter t0 elt : Expr} {body : List Stmt} {pos : Pos} {c c1 c2 ci cb ct ce : Nat} {Ti : TID} {G : GD} {Ts : TSD} {Tt : TTD} {Te : TD} {is : List Nat}
def sFor (M : Nat) (Ti : TID) (G : GD) (Ts : TSD) : TSD := fun E ε => Ti ε fun ds => ds.length ≤ M ∧ ∃ Iv : Nat → Ev → Prop, Iv 0 ε ∧
  (∀ i d ε', ds[i]? = some d → Iv i ε' → G d ε' fun ε2 => Ts { E with nx := Iv (i + 1), ct := Iv (i + 1), bk := E.nx } ε2) ∧ ∀ ε', Iv ds.length ε' → E.nx ε'
theorem yd_step {w : Bool} {A : Addr → Prop} {B : Option Addr} {F Fi Hi H' : Hp} {ds : List Dat} {i : Nat} {x : V} {σ : L2.St} {ε : Ev} (r : Rs A B Fi Hi σ ε) (e : Ex F Fi) (y : YD w B F ds i Hi x H') :
    ∃ d F2, ds[i]? = some d ∧ Gr NoA B 0 Fi Hi F2 H' ∧ RepX w B F2 H' x d ∧ Ex F F2 := by
  obtain ⟨d, hd, y⟩ := y
  rcases y with ⟨rfl, rd⟩ | ⟨hw, T, xs, es, rfl, hT, rfl, rfl, rr⟩
  · exact ⟨d, Fi, hd, Gr.refl r.ex, .inl (rd.mono e), e⟩
  · exact ⟨_, Fi, hd, Gr.alloc0 r.ex hT, .inr ⟨hw, T, xs, es, rfl, upd_same, rfl, rr.mono e⟩, e⟩
theorem sd_for (M : Nat) (hp : PassesOwn (model X.prog X.w) X.A X.env X.xe) (hc : X.calm = true) (hi : PID w X ci tg iter Ti) (hg : PGD w X is tg G) (hb : SDs X cb body Ts) (hs : ∀ x, foldedSetIterable iter X.env x = pure x := by intro _; rfl) :
    SD X (ci + M * cb) (.For tg iter body [] pos) (sFor M Ti G Ts) := ps_weak (ps_for hp hc hi hg hb hs) fun D σ H ⟨A, B, F, ε, E, n, r, bx, hn, t, k1, k2, k3, k4⟩ => by
  refine ⟨A, B, F, ε, _, n, r, bx, by omega, t, fun J F1 H1 ds g1 w ⟨hl, Iv, h0, hs, hd⟩ => ?_⟩
  refine for_it w (fun i σ' H' => i ≤ ds.length ∧ ∃ Fi εi, Gr A B (i * cb) F1 H1 Fi H' ∧ Rs A B Fi H' σ' εi ∧ Iv i εi)
    ⟨Nat.zero_le _, F1, ε, by rw [Nat.zero_mul]; exact Gr.refl (r.gr g1).ex, r.gr g1, h0⟩ (fun i σ' H' _ ⟨_, Fi, εi, g, ri, _⟩ => g.ex.trans ri.ex) ?_ ?_
  · rintro i x σ' Hi H' hi ⟨_, Fi, εi, g, ri, inv⟩ y
    obtain ⟨d, F2, hd2, g2, rd, _⟩ := yd_step ri g.ex y
    have hm : (i + 1) * cb ≤ M * cb := Nat.mul_le_mul_right _ (by omega)
    have hi1 : (i + 1) * cb = i * cb + cb := Nat.succ_mul _ _
    refine ⟨A, B, F2, εi, d, _, ri.gr g2, rd, hs i d εi hd2 inv, fun σ3 ε3 r3 _ t3 => ?_⟩
    have gg : Gr A B (ci + (i * cb + 0)) F H F2 H' := g1.any.trans (g.trans g2.any)
    refine ⟨A, B, F2, ε3, _, n + (ci + (i * cb + 0)), r3, gg.box n bx, by omega, t3, fun F' H'' σ'' ε'' g3 r'' inv' => ?_, fun F' H'' σ'' ε'' g3 r'' z => ?_, fun F' H'' σ'' ε'' g3 r'' inv' => ?_, fun v F' H'' d g3 q z => ?_⟩
    · exact ⟨hi, F', ε'', ((g.trans g2.any).trans g3).mono (by omega), r'', inv'⟩
    · exact k1 F' H'' σ'' ε'' ((gg.trans g3).mono (by omega)) r'' z
    · exact ⟨hi, F', ε'', ((g.trans g2.any).trans g3).mono (by omega), r'', inv'⟩
    · exact k4 v F' H'' d ((gg.trans g3).mono (by omega)) q z
  · rintro σ' H' ⟨_, Fi, εi, g, ri, inv⟩
    have hm : ds.length * cb ≤ M * cb := Nat.mul_le_mul_right _ hl
    exact k1 Fi H' σ' εi ((g1.any.trans g).mono (by omega)) ri (hd εi inv)

/-! ### while -/
def sWh (M : Nat) (Tt : TTD) (Ts : TSD) : TSD := fun E ε => ∃ Iv : Nat → Ev → Prop, (∃ m, m ≤ M ∧ Iv m ε) ∧
  ∀ m ε', Iv m ε' → Tt ε' fun b => if b = true then Ts { E with nx := fun ε2 => ∃ m', m' < m ∧ Iv m' ε2, ct := fun ε2 => ∃ m', m' < m ∧ Iv m' ε2, bk := E.nx } ε' else E.nx ε'
theorem sd_while (M : Nat) (hp : PassesOwn (model X.prog X.w) X.A X.env X.xe) (ht : PTD X ct t0 Tt) (hb : SDs X cb body Ts) : SD X ((M + 1) * (ct + cb)) (.While t0 body [] pos) (sWh M Tt Ts) :=
  ps_weak (ps_while hp ht hb) fun D σ H ⟨A, B, F, ε, E, n, r, bx, hn, ⟨Iv, ⟨m0, hm0, i0⟩, turn⟩, k1, k2, k3, k4⟩ => by
    refine ⟨fun m σ' H' => m ≤ m0 ∧ ∃ F' ε', Gr A B ((m0 - m) * (ct + cb)) F H F' H' ∧ Rs A B F' H' σ' ε' ∧ Iv m ε', ⟨m0, Nat.le_refl _, F, ε, by rw [Nat.sub_self, Nat.zero_mul]; exact Gr.refl r.ex, r, i0⟩, ?_⟩
    rintro m σ' H' ⟨hm, F', ε', g, r', inv⟩
    have le1 : (m0 - m) * (ct + cb) ≤ M * (ct + cb) := Nat.mul_le_mul_right _ (by omega)
    have e1 : (M + 1) * (ct + cb) = M * (ct + cb) + (ct + cb) := Nat.succ_mul _ _
    refine ⟨A, B, F', ε', _, n + (m0 - m) * (ct + cb), r', g.box n bx, by omega, turn m ε' inv, fun b F2 H2 g2 t2 => ?_⟩
    cases b with
    | true =>
      have step : ∀ m', m' < m → (m0 - m) * (ct + cb) + (ct + cb) ≤ (m0 - m') * (ct + cb) := fun m' h => by
        rw [← Nat.succ_mul]
        exact Nat.mul_le_mul_right _ (by omega)
      refine ⟨fun σ3 H3 => ∃ m', m' < m ∧ ∃ F3 ε3, Gr A B ((m0 - m') * (ct + cb)) F H F3 H3 ∧ Rs A B F3 H3 σ3 ε3 ∧ Iv m' ε3, fun σ3 H3 ⟨m', h1, F3, ε3, h2, h3, h4⟩ => ⟨m', h1, by omega, F3, ε3, h2, h3, h4⟩, ?_⟩
      refine ⟨A, B, F2, ε', _, n + (m0 - m) * (ct + cb) + ct, r'.gr g2, g2.box _ (g.box n bx), by omega, t2, fun F3 H3 σ3 ε3 g3 r3 ⟨m', h1, h2⟩ => ?_, fun F3 H3 σ3 ε3 g3 r3 z => ?_, fun F3 H3 σ3 ε3 g3 r3 ⟨m', h1, h2⟩ => ?_, fun v F3 H3 d g3 q z => ?_⟩
      · exact ⟨m', h1, F3, ε3, ((g.trans (g2.any.trans g3)).mono (step m' h1)), r3, h2⟩
      · exact k1 F3 H3 σ3 ε3 ((g.trans (g2.any.trans g3)).mono (by omega)) r3 z
      · exact ⟨m', h1, F3, ε3, ((g.trans (g2.any.trans g3)).mono (step m' h1)), r3, h2⟩
      · exact k4 v F3 H3 d ((g.trans (g2.any.trans g3)).mono (by omega)) q z
    | false => exact k1 F2 H2 σ' ε' ((g.trans g2.any).mono (by omega)) (r'.gr g2) t2

/-! ### comprehensions -/
def dLc (M : Nat) (Ti : TID) (G : GD) (Tt : TTD) (Te : TD) (vs : List Nat) : TD := fun ε P => Ti ε fun ds => ds.length ≤ M ∧ ∃ Iv : Nat → List Dat → Prop, Iv 0 [] ∧
  (∀ i d acc, ds[i]? = some d → Iv i acc → G d (wipeD ε vs) fun ε2 => Tt ε2 fun b => if b = true then Te ε2 fun y => Iv (i + 1) (acc ++ [y]) else Iv (i + 1) acc) ∧ ∀ acc, Iv ds.length acc → P (.lst acc)
def PTsD (X : Cx) (c : Nat) (ifs : List Expr) (T : TTD) : Prop := PTs X ifs (liftT c T)
theorem pts_weak {ifs : List Expr} {t t' : TT} (h : PTs X ifs t) (w : ∀ σ H Q, t' σ H Q → t σ H Q) : PTs X ifs t' := ⟨fun pins s σ H Q I q => h.run pins s σ H Q I (w σ H Q q)⟩
def dYes : TTD := fun _ P => P true
theorem ptsd_nil : PTsD X 0 [] dYes := pts_weak pts_nil fun σ H Q ⟨A, B, F, ε, P, n, r, bx, hn, t, k⟩ => k true F H (Gr.refl r.ex) t
theorem ptsd_one (h : PTD X c t0 Tt) : PTsD X c [t0] Tt := pts_one h
theorem lc_run {M : Nat} (hM : M ≤ 1024) {vs : List Nat} (his : ∀ i ∈ is, i ∈ vs) : ∀ σ H Q, lift .fr (ci + M * (ct + ce)) (dLc M Ti G Tt Te vs) σ H Q → tLc (liftI w ci Ti) (liftG w is G) (liftT ct Tt) (lift .rep ce Te) vs σ H Q := fun σ H Q ⟨A, B, F, ε, P, n, r, bx, hn, t, k⟩ => by
  refine ⟨A, B, F, ε, _, n, r, bx, by omega, t, fun J F1 H1 ds g1 w ⟨hl, Iv, h0, hs, hd⟩ D hD => ?_⟩
  have r1 := r.gr g1
  have gD : Gr NoA B 0 F1 H1 F1 (upd H1 D (.lst [])) := Gr.alloc0 r1.ex hD
  have nB : B ≠ some D := fun e => by
    obtain ⟨_, _, o, ho⟩ := r1.bx D e
    rw [hD] at ho
    cases ho
  refine lc_it w (fun i H' => i ≤ ds.length ∧ ∃ Fi vacc acc, Gr NoA B (i * (ct + ce)) F1 H1 Fi H' ∧ Fi D = none ∧ H' D = some (.lst vacc) ∧ Reps B Fi vacc acc ∧ Iv i acc ∧ acc.length ≤ i) ?_ ?_ ?_ ?_
  · exact ⟨Nat.zero_le _, F1, [], [], by rw [Nat.zero_mul]; exact gD, r1.ex.back hD, upd_same, .nil, h0, Nat.le_refl _⟩
  · rintro i H' _ ⟨_, Fi, vacc, acc, g, _⟩
    exact g.ex.trans g.sub
  · rintro i x Hi H' hi ⟨_, Fi, vacc, acc, g, hF, hDi, ra, inv, la⟩ y
    have ri : Rs A B Fi Hi σ ε := r1.gr g
    obtain ⟨d, F2, hd2, g2, rd, _⟩ := yd_step ri g.ex y
    have hm : (i + 1) * (ct + ce) ≤ M * (ct + ce) := Nat.mul_le_mul_right _ (by omega)
    have hi1 : (i + 1) * (ct + ce) = i * (ct + ce) + (ct + ce) := Nat.succ_mul _ _
    refine ⟨A, B, F2, wipeD ε vs, d, _, (ri.gr g2).wipe vs, rd, hs i d acc hd2 inv, fun σ3 ε3 r3 w3 t3 => ⟨?_, ?_⟩⟩
    · rw [w3 vs his, wipe_wipe]
    have gg : Gr NoA B (ci + (i * (ct + ce) + 0)) F H F2 H' := g1.trans (g.trans g2)
    have keepD : ∀ {c F3 H3}, Gr NoA B c F2 H' F3 H3 → H3 D = some (.lst vacc) ∧ F3 D = none := fun {c F3 H3} g3 => by
      have e2 : H' D = some (.lst vacc) := g2.keep D _ hDi nB (fun z => z)
      have f2 : F2 D = none := by
        cases q : F2 D with
        | none => rfl
        | some o =>
          rcases g2.new D o q with z | z | z
          · rw [hF] at z; cases z
          · rw [hDi] at z; cases z
          · exact z.elim
      refine ⟨g3.keep D _ e2 nB (fun z => z), ?_⟩
      cases q : F3 D with
      | none => rfl
      | some o =>
        rcases g3.new D o q with z | z | z
        · rw [f2] at z; cases z
        · rw [e2] at z; cases z
        · exact z.elim
    refine ⟨A, B, F2, ε3, _, n + (ci + (i * (ct + ce) + 0)), r3, gg.box n bx, by omega, t3, fun b F3 H3 g3 t4 => ?_⟩
    cases b with
    | true =>
      show lift .rep ce Te σ3 H3 _
      refine ⟨A, B, F3, ε3, _, n + (ci + (i * (ct + ce) + 0)) + ct, r3.gr g3, g3.box _ (gg.box n bx), by omega, t4, fun yv F4 H4 yd g4 ry iy => ?_⟩
      have g24 : Gr NoA B (ct + ce) F2 H' F4 H4 := g3.trans g4
      obtain ⟨e4, f4⟩ := keepD g24
      refine ⟨vacc, e4, by rw [ra.length]; exact Nat.lt_of_le_of_lt la (Nat.lt_of_lt_of_le (Nat.lt_of_lt_of_le hi (Nat.le_trans hl hM)) (by decide)), hi, F4, vacc ++ [yv], acc ++ [yd], ?_, f4, upd_same, ((ra.mono g2.ex).mono g24.ex).append (.cons ry .nil), iy, by simp; omega⟩
      have gm : Gr NoA B (i * (ct + ce) + 0 + (ct + ce)) F1 H1 F4 H4 := (g.trans g2).trans g24
      refine (Gr.mono (c := i * (ct + ce) + 0 + (ct + ce)) ⟨gm.ex, gm.sub.mut f4, gm.new, fun a o ha nb na => ?_, fun a o ha => ?_, fun m hb => ?_⟩ (by omega))
      · have : a ≠ D := fun z => by rw [z, hD] at ha; cases ha
        rw [upd_ne this]
        exact gm.keep a o ha nb na
      · have : a ≠ D := fun z => by rw [z, hD] at ha; cases ha
        rw [upd_ne this]
        exact gm.there a o ha
      · intro b hb2
        obtain ⟨ws, h1, h2⟩ := gm.box m hb b hb2
        have : b ≠ D := fun z => nB (by rw [hb2, z])
        exact ⟨ws, by rw [upd_ne this]; exact h1, h2⟩
    | false =>
      obtain ⟨e3, f3⟩ := keepD g3
      exact ⟨hi, F3, vacc, acc, ((g.trans g2).trans g3).mono (by omega), f3, e3, (ra.mono g2.ex).mono g3.ex, t4, by omega⟩
  · rintro H' ⟨_, Fi, vacc, acc, g, hF, hDi, ra, inv, la⟩
    have hm : ds.length * (ct + ce) ≤ M * (ct + ce) := Nat.mul_le_mul_right _ hl
    exact k _ Fi H' (.lst acc) ((g1.trans g).mono (by omega)) ⟨D, rfl, ⟨hF, nB, _, hDi, ra⟩, g1.free hD⟩ (hd acc inv)
theorem pd_lc (M : Nat) {ifs : List Expr} {scope : Scope} {own : List (Str × Nat)} (hc : X.calm = true) (hN : X.N.Nodup) (hi : PID w X ci tg iter Ti) (ok : BlkOk X.N X.env.scope scope own)
    (hg : ∀ (s : Shared) (H : Hp) (C : Addr) (cl : List (Str × Addr)) (fp : List Addr), PGD w (X.blk s H scope (compEnvC scope cl C X.env) fp) is tg G) (ht : ∀ (s : Shared) (H : Hp) (C : Addr) (cl : List (Str × Addr)) (fp : List Addr), PTsD (X.blk s H scope (compEnvC scope cl C X.env) fp) ct ifs Tt)
    (he : ∀ (s : Shared) (H : Hp) (C : Addr) (cl : List (Str × Addr)) (fp : List Addr), PD .rep (X.blk s H scope (compEnvC scope cl C X.env) fp) ce elt Te) (his : ∀ i ∈ is, i ∈ own.map (·.2) := by decide) (hs : ∀ x, foldedSetIterable iter X.env x = pure x := by intro _; rfl) (hM : M ≤ 1024 := by decide) :
    PD .fr X (ci + M * (ct + ce)) (.ListComp elt [⟨tg, iter, ifs, 0⟩] scope pos) (dLc M Ti G Tt Te (own.map (·.2))) :=
  pe_weak (pe_lc hc hN hi ok hg ht he hs) (lc_run hM his)
/-- y = [..], y a local name: stored by the comprehension's own block -/
theorem sd_setLc (M : Nat) {i : Nat} {y : Str} {py spos : Pos} {ifs : List Expr} {scope : Scope} {own : List (Str × Nat)} (hc : X.calm = true) (hN : X.N.Nodup) (hy : X.N[i]? = some y) (hyl : X.env.scope.names.lookup y = some .local)
    (hsw : swapsWith (.ListComp elt [⟨tg, iter, ifs, 0⟩] scope pos) (some (.Name y py)) spos.line X.env = pure true) (hi : PID w X ci tg iter Ti) (ok : BlkOk X.N X.env.scope scope own)
    (hg : ∀ (s : Shared) (H : Hp) (C : Addr) (cl : List (Str × Addr)) (fp : List Addr), PGD w (X.blk s H scope (compEnvC scope cl C X.env) fp) is tg G) (ht : ∀ (s : Shared) (H : Hp) (C : Addr) (cl : List (Str × Addr)) (fp : List Addr), PTsD (X.blk s H scope (compEnvC scope cl C X.env) fp) ct ifs Tt)
    (he : ∀ (s : Shared) (H : Hp) (C : Addr) (cl : List (Str × Addr)) (fp : List Addr), PD .rep (X.blk s H scope (compEnvC scope cl C X.env) fp) ce elt Te) (his : ∀ i ∈ is, i ∈ own.map (·.2) := by decide) (hs : ∀ x, foldedSetIterable iter X.env x = pure x := by intro _; rfl) (hM : M ≤ 1024 := by decide) :
    SD X (ci + M * (ct + ce)) (.Assign [.Name y py] (.ListComp elt [⟨tg, iter, ifs, 0⟩] scope pos) spos) (sAsgO i (dLc M Ti G Tt Te (own.map (·.2)))) :=
  ps_weak (ps_setLc hc hN hy hyl hsw hi ok hg ht he hs) fun D σ H h => lc_run hM his σ H _ (asgO_run D σ H h)
/-- a comprehension whose turns carry nothing -/
theorem dLc_pure {M : Nat} {vs : List Nat} {ε : Ev} {P : Dat → Prop} {ds : List Dat} (g : Dat → Option Dat) (hl : ds.length ≤ M)
    (h : ∀ d ∈ ds, ∀ R : Option Dat → Prop, R (g d) → G d (wipeD ε vs) fun ε2 => Tt ε2 fun b => if b = true then Te ε2 fun y => R (some y) else R none) (hP : P (.lst (ds.filterMap g))) :
    ds.length ≤ M ∧ ∃ Iv : Nat → List Dat → Prop, Iv 0 [] ∧
      (∀ i d acc, ds[i]? = some d → Iv i acc → G d (wipeD ε vs) fun ε2 => Tt ε2 fun b => if b = true then Te ε2 fun y => Iv (i + 1) (acc ++ [y]) else Iv (i + 1) acc) ∧ ∀ acc, Iv ds.length acc → P (.lst acc) := by
  refine ⟨hl, fun i acc => acc = (ds.take i).filterMap g, by simp, fun i d acc hd ha => ?_, fun acc ha => ?_⟩
  · subst ha
    have ht : ds.take (i + 1) = ds.take i ++ [d] := by rw [List.take_add_one, hd]; rfl
    have := h d (List.mem_of_getElem? hd) (fun o => (ds.take i).filterMap g ++ o.toList = (ds.take (i + 1)).filterMap g) (by
      rw [ht, List.filterMap_append]
      cases e : g d <;> simp [e])
    simpa using this
  · subst ha
    rw [List.take_length]
    exact hP
end
end DL
set_option maxRecDepth 100000
set_option maxHeartbeats 1000000
/-! DL4: operators by data, tests. -/
namespace DL
open PySem L2

/-! ### plain data, == -/
mutual
def eqD : Dat → Dat → Bool
  | .non, .non => true
  | .bl a, .bl b => a == b
  | .bl a, .int j => (if a then 1 else 0) == j
  | .int i, .bl b => i == (if b then 1 else 0)
  | .int i, .int j => i == j
  | .lst xs, .lst ys => eqDs xs ys
  | .tup xs, .tup ys => eqDs xs ys
  | .str x, .str y => x == y
  | _, _ => false
def eqDs : List Dat → List Dat → Bool
  | [], [] => true
  | x :: xs, y :: ys => eqD x y && eqDs xs ys
  | _, _ => false
end
mutual
def py : Dat → PyData
  | .non => .none
  | .bl b => .bool b
  | .int i => .int i
  | .lst xs => .list (pys xs)
  | .tup xs => .tuple (pys xs)
  | .str x => .str x
  | _ => .dict []
def pys : List Dat → List PyData
  | [] => []
  | x :: xs => py x :: pys xs
end
/-- none, bools, ints, lists and tuples to a depth -/
def pl : Nat → Dat → Bool
  | _, .non => true
  | _, .bl _ => true
  | _, .int _ => true
  | _, .str x => PyData.strOk x
  | n + 1, .lst xs => xs.all (pl n)
  | n + 1, .tup xs => xs.all (pl n)
  | _, _ => false
theorem canAll {ds : List PyData} (h : ∀ d ∈ ds, d.canLay0 = true) : PyData.canLayAll0 ds = true := by
  induction ds with
  | nil => simp only [PyData.canLayAll0]
  | cons d ds ih => simp only [PyData.canLayAll0, h d (by simp), ih fun e he => h e (by simp [he]), Bool.and_self]
theorem depAll {n : Nat} {ds : List PyData} (h : ∀ d ∈ ds, d.depth ≤ n) : PyData.depthAll ds ≤ n := by
  induction ds with
  | nil => simp only [PyData.depthAll, Nat.zero_le]
  | cons d ds ih =>
    simp only [PyData.depthAll]
    exact Nat.max_le.mpr ⟨h d (by simp), ih fun e he => h e (by simp [he])⟩
theorem mem_pys {d : PyData} : ∀ {xs : List Dat}, d ∈ pys xs → ∃ x ∈ xs, d = py x
  | [], h => by simp [pys] at h
  | x :: xs, h => by
    simp only [pys, List.mem_cons] at h
    rcases h with e | h
    · exact ⟨x, by simp, e⟩
    · obtain ⟨y, h1, h2⟩ := mem_pys h
      exact ⟨y, by simp [h1], h2⟩
theorem pl_ok : ∀ {n : Nat} {d : Dat}, pl n d = true → (py d).canLay0 = true ∧ (py d).depth ≤ n
  | n, .non, _ => by simp [py, PyData.canLay0, PyData.depth]
  | n, .bl b, _ => by simp [py, PyData.canLay0, PyData.depth]
  | n, .int b, _ => by simp [py, PyData.canLay0, PyData.depth]
  | n, .str b, h => by simpa [py, PyData.canLay0, PyData.depth, pl] using h
  | n + 1, .lst xs, h => by
    have h1 : ∀ d ∈ pys xs, d.canLay0 = true ∧ d.depth ≤ n := fun d hd => by
      obtain ⟨x, hx, rfl⟩ := mem_pys hd
      exact pl_ok (List.all_eq_true.mp (show xs.all (pl n) = true from h) x hx)
    simp only [py, PyData.canLay0, PyData.depth]
    exact ⟨canAll fun d hd => (h1 d hd).1, Nat.succ_le_succ (depAll fun d hd => (h1 d hd).2)⟩
  | n + 1, .tup xs, h => by
    have h1 : ∀ d ∈ pys xs, d.canLay0 = true ∧ d.depth ≤ n := fun d hd => by
      obtain ⟨x, hx, rfl⟩ := mem_pys hd
      exact pl_ok (List.all_eq_true.mp (show xs.all (pl n) = true from h) x hx)
    simp only [py, PyData.canLay0, PyData.depth]
    exact ⟨canAll fun d hd => (h1 d hd).1, Nat.succ_le_succ (depAll fun d hd => (h1 d hd).2)⟩
  | 0, .lst _, h => by simp [pl] at h
  | 0, .tup _, h => by simp [pl] at h
  | _, .dct _, h => by simp [pl] at h
  | _, .dtt _, h => by simp [pl] at h
  | _, .obj _ _, h => by simp [pl] at h
  | _, .cell, h => by simp [pl] at h
  | _, .ty _, h => by simp [pl] at h
  | _, .cls _, h => by simp [pl] at h
theorem shaped_of {d : Dat} {n : Nat} (h : pl n d = true) (hn : n ≤ 60) : SeqAt.shaped (py d) = true := by
  obtain ⟨h1, h2⟩ := pl_ok h
  unfold SeqAt.shaped
  rw [h1, decide_eq_true (by omega)] <;> rfl
mutual
theorem eqv_py : ∀ (d e : Dat) {n m : Nat}, pl n d = true → pl m e = true → PyData.eqv (py d) (py e) = eqD d e
  | .lst xs, e, n, m, h, h' => by
    cases n with
    | zero => simp [pl] at h
    | succ n =>
      cases e with
      | lst ys =>
        cases m with
        | zero => simp [pl] at h'
        | succ m =>
          simp only [py, PyData.eqv, eqD]
          exact eqvs_py xs ys (show xs.all (pl n) = true from h) (show ys.all (pl m) = true from h')
      | _ => first | (simp [pl] at h'; done) | simp [py, PyData.eqv, eqD]
  | .tup xs, e, n, m, h, h' => by
    cases n with
    | zero => simp [pl] at h
    | succ n =>
      cases e with
      | tup ys =>
        cases m with
        | zero => simp [pl] at h'
        | succ m =>
          simp only [py, PyData.eqv, eqD]
          exact eqvs_py xs ys (show xs.all (pl n) = true from h) (show ys.all (pl m) = true from h')
      | _ => first | (simp [pl] at h'; done) | simp [py, PyData.eqv, eqD]
  | .non, e, n, m, h, h' => by cases e <;> first | (simp [pl] at h'; done) | simp [py, PyData.eqv, eqD]
  | .bl b, e, n, m, h, h' => by cases e <;> first | (simp [pl] at h'; done) | simp [py, PyData.eqv, eqD]
  | .int i, e, n, m, h, h' => by cases e <;> first | (simp [pl] at h'; done) | simp [py, PyData.eqv, eqD]
  | .str i, e, n, m, h, h' => by cases e <;> first | (simp [pl] at h'; done) | simp [py, PyData.eqv, eqD]
  | .dct _, _, _, _, h, _ => by simp [pl] at h
  | .dtt _, _, _, _, h, _ => by simp [pl] at h
  | .obj _ _, _, _, _, h, _ => by simp [pl] at h
  | .cell, _, _, _, h, _ => by simp [pl] at h
  | .ty _, _, _, _, h, _ => by simp [pl] at h
  | .cls _, _, _, _, h, _ => by simp [pl] at h
theorem eqvs_py : ∀ (xs ys : List Dat) {n m : Nat}, xs.all (pl n) = true → ys.all (pl m) = true → PyData.eqvAll (pys xs) (pys ys) = eqDs xs ys
  | [], [], _, _, _, _ => by simp [pys, PyData.eqvAll, eqDs]
  | [], y :: ys, _, _, _, _ => by simp [pys, PyData.eqvAll, eqDs]
  | x :: xs, [], _, _, _, _ => by simp [pys, PyData.eqvAll, eqDs]
  | x :: xs, y :: ys, n, m, h, h' => by
    rw [List.all_cons, Bool.and_eq_true] at h h'
    simp only [pys, PyData.eqvAll, eqDs, eqv_py x y h.1 h'.1, eqvs_py xs ys h.2 h'.2]
end
mutual
theorem dp_of {K : PySem.W.Frag} {B : Option Addr} {F H : Hp} (e : Ex F H) : ∀ (d : Dat) {v : V} {n : Nat}, Rep B F v d → pl n d = true → Dp K H v (py d)
  | .non, _, _, .non, _ => by simp only [py]; exact .non
  | .bl _, _, _, .bl, _ => by simp only [py]; exact .bl _
  | .int _, _, _, .int, _ => by simp only [py]; exact .int _
  | .lst xs, _, n, .lst h r, hp => by
    cases n with
    | zero => simp [pl] at hp
    | succ n =>
      simp only [py]
      exact .lst (SqL.of (e _ _ h)) (dps_of e xs r (show xs.all (pl n) = true from hp))
  | .tup xs, _, n, .tup h hd r, hp => by
    cases n with
    | zero => simp [pl] at hp
    | succ n =>
      simp only [py]
      exact .tup (KT.sq ⟨_, e _ _ h, hd⟩) (dps_of e xs r (show xs.all (pl n) = true from hp))
  | .str _, _, _, .str, _ => by simp only [py]; exact .str _
  | .dct _, _, _, _, hp => by simp [pl] at hp
  | .dtt _, _, _, _, hp => by simp [pl] at hp
  | .obj _ _, _, _, _, hp => by simp [pl] at hp
  | .cell, _, _, _, hp => by simp [pl] at hp
  | .ty _, _, _, _, hp => by simp [pl] at hp
  | .cls _, _, _, _, hp => by simp [pl] at hp
theorem dps_of {K : PySem.W.Frag} {B : Option Addr} {F H : Hp} (e : Ex F H) : ∀ (ds : List Dat) {vs : List V} {n : Nat}, Reps B F vs ds → ds.all (pl n) = true → DpAll K H vs (pys ds)
  | [], _, _, .nil, _ => by simp only [pys]; exact .nil
  | d :: ds, _, n, .cons r t, h => by
    rw [List.all_cons, Bool.and_eq_true] at h
    simp only [pys]
    exact .cons (dp_of e d r h.1) (dps_of e ds t h.2)
end

/-! ### what a shallow value is -/
section
variable {B : Option Addr} {Hb F H : Hp} {v : V} {i : Int} {b : Bool} {x : Str} {xs : List Dat}
theorem sh_non (h : Res .sh B Hb F H v .non) : v = .non := by
  rcases h with h | ⟨p, _, w⟩
  · cases h; rfl
  · obtain ⟨o, _, c⟩ := w.con; cases o <;> exact c.elim
theorem sh_int (h : Res .sh B Hb F H v (.int i)) : v = .int i := by
  rcases h with h | ⟨p, _, w⟩
  · cases h; rfl
  · obtain ⟨o, _, c⟩ := w.con; cases o <;> exact c.elim
theorem sh_bl (h : Res .sh B Hb F H v (.bl b)) : v = .bl b := by
  rcases h with h | ⟨p, _, w⟩
  · cases h; rfl
  · obtain ⟨o, _, c⟩ := w.con; cases o <;> exact c.elim
theorem sh_str (h : Res .sh B Hb F H v (.str x)) : v = .str x := by
  rcases h with h | ⟨p, _, w⟩
  · cases h; rfl
  · obtain ⟨o, _, c⟩ := w.con; cases o <;> exact c.elim
theorem sh_tup (e : Ex F H) (h : Res .sh B Hb F H v (.tup xs)) : ∃ p vs, v = .ref p ∧ KT H p vs ∧ Reps B F vs xs := by
  rcases h with h | ⟨p, _, w⟩
  · cases h with | tup h1 hd h2 => exact ⟨_, _, rfl, ⟨_, e _ _ h1, hd⟩, h2⟩
  · obtain ⟨o, _, c⟩ := w.con; cases o <;> exact c.elim
theorem sh_lst (e : Ex F H) (h : Res .sh B Hb F H v (.lst xs)) : ∃ p vs, v = .ref p ∧ H p = some (.lst vs) ∧ Reps B F vs xs := by
  rcases h with h | ⟨p, hv, w⟩
  · cases h with | lst h1 h2 => exact ⟨_, _, rfl, e _ _ h1, h2⟩
  · obtain ⟨o, ho, c⟩ := w.con
    cases o with
    | lst vs => exact ⟨p, vs, hv, ho, c⟩
    | _ => exact c.elim
theorem sh_dct {ks : List (Key × Dat)} (e : Ex F H) (h : Res .sh B Hb F H v (.dct ks)) : ∃ p vs, v = .ref p ∧ H p = some (.dK vs) ∧ vs.map (·.1) = ks.map (·.1) ∧ Reps B F (vs.map (·.2)) (ks.map (·.2)) := by
  rcases h with h | ⟨p, hv, w⟩
  · cases h with | dct h1 h2 h3 => exact ⟨_, _, rfl, e _ _ h1, h2, h3⟩
  · obtain ⟨o, ho, c⟩ := w.con
    cases o with
    | dK vs => exact ⟨p, vs, hv, ho, c⟩
    | _ => exact c.elim
theorem sh_dtt {ks : List (List Key × Dat)} (e : Ex F H) (h : Res .sh B Hb F H v (.dtt ks)) : ∃ p vs, v = .ref p ∧ H p = some (.dT vs) ∧ vs.map (·.1) = ks.map (·.1) ∧ Reps B F (vs.map (·.2)) (ks.map (·.2)) := by
  rcases h with h | ⟨p, hv, w⟩
  · cases h with | dtt h1 h2 h3 => exact ⟨_, _, rfl, e _ _ h1, h2, h3⟩
  · obtain ⟨o, ho, c⟩ := w.con
    cases o with
    | dT vs => exact ⟨p, vs, hv, ho, c⟩
    | _ => exact c.elim
theorem sh_dp {K : PySem.W.Frag} (e : Ex F H) {d : Dat} {n : Nat} (h : Res .sh B Hb F H v d) (hp : pl n d = true) : Dp K H v (py d) := by
  rcases h with h | ⟨p, hv, w⟩
  · exact dp_of e d h hp
  · obtain ⟨o, ho, c⟩ := w.con
    cases d with
    | lst xs =>
      cases o with
      | lst vs =>
        cases n with
        | zero => simp [pl] at hp
        | succ n =>
          subst hv
          simp only [py]
          exact .lst (SqL.of ho) (dps_of e xs c (show xs.all (pl n) = true from hp))
      | _ => exact c.elim
    | dct ks => simp [pl] at hp
    | dtt ks => simp [pl] at hp
    | obj C ks => simp [pl] at hp
    | _ => cases o <;> exact c.elim
end
def flatD : Dat → Bool
  | .non => true
  | .bl _ => true
  | .int _ => true
  | _ => false
theorem flat_rep {B : Option Addr} {F : Hp} {v : V} {d : Dat} (h : Rep B F v d) (f : flatD d = true) : flatV v = true := by
  cases h <;> first | rfl | (simp [flatD] at f; done)
theorem flat_reps {B : Option Addr} {F : Hp} {vs : List V} {ds : List Dat} : Reps B F vs ds → ds.all flatD = true → vs.all flatV = true := by
  intro h f
  induction ds generalizing vs with
  | nil => cases h; rfl
  | cons d ds ih =>
    cases h with
    | cons r t =>
      rw [List.all_cons, Bool.and_eq_true] at f
      rw [List.all_cons, flat_rep r f.1, ih t f.2] <;> rfl
theorem eqV_eqD {B : Option Addr} {F F' : Hp} {v w : V} {d e : Dat} (h : Rep B F v d) (h' : Rep B F' w e) (f : flatD d = true) (f' : flatD e = true) : eqV v w = eqD d e := by
  cases h <;> first | (simp [flatD] at f; done) | (cases h' <;> first | (simp [flatD] at f'; done) | simp [eqV, eqD])
theorem inV_eqD {B : Option Addr} {F F' : Hp} {w : V} {e : Dat} (h' : Rep B F' w e) (f' : flatD e = true) : ∀ {vs : List V} {ds : List Dat}, Reps B F vs ds → ds.all flatD = true → inV w vs = ds.any (fun d => eqD d e)
  | _, _, .nil, _ => rfl
  | _, _, .cons r t, f => by
    rw [List.all_cons, Bool.and_eq_true] at f
    have := inV_eqD h' f' t f.2
    unfold inV at this ⊢
    rw [List.any_cons, List.any_cons, eqV_eqD r h' f.1 f', this]

/-! ### operators -/
section
variable {X : Cx}
/-- a value that is no new object -/
theorem opd_same {B : Option Addr} {F H Hb : Hp} {v : V} {d : Dat} {P : Dat → Prop} {Q : VK} (e : Ex F H) (r : Rep B F v d) (p : P d) (k : ∀ v F' H' z, Gr NoA B 0 F H F' H' → Res .rep B Hb F' H' v z → P z → Q v H') : Q v H :=
  k v F H d (Gr.refl e) r p
theorem opd_tup {B : Option Addr} {F H Hb : Hp} {vs : List V} {ds : List Dat} {P : Dat → Prop} {Q : VK} (e : Ex F H) (r : Reps B F vs ds) (p : P (.tup ds)) (k : ∀ v F' H' z, Gr NoA B 0 F H F' H' → Res .rep B Hb F' H' v z → P z → Q v H') :
    NewT vs H Q := fun a o hd ha => by
  have g : Gr NoA B 0 F H (upd F a (.frz o (.tup vs))) (upd H a (.frz o (.tup vs))) := Gr.alloc e ha
  exact k _ _ _ _ g (Rep.tup upd_same hd (r.mono g.ex)) p
theorem opd_lst {B : Option Addr} {F H Hb : Hp} {vs : List V} {ds : List Dat} {P : Dat → Prop} {Q : VK} (e : Ex F H) (r : Reps B F vs ds) (p : P (.lst ds)) (k : ∀ v F' H' z, Gr NoA B 0 F H F' H' → Res .rep B Hb F' H' v z → P z → Q v H') :
    ∀ a, H a = none → Q (.ref a) (upd H a (.lst vs)) := fun a ha => by
  have g : Gr NoA B 0 F H (upd F a (.lst vs)) (upd H a (.lst vs)) := Gr.alloc e ha
  exact k _ _ _ _ g (Rep.lst upd_same (r.mono g.ex)) p
/-- .. a new list of one's own -/
theorem opd_own {B : Option Addr} {F H Hb : Hp} {vs : List V} {ds : List Dat} {P : Dat → Prop} {Q : VK} (e : Ex F H) (hb : ∀ a, H a = none → Hb a = none) (bx : ∀ b, B = some b → ∃ o, H b = some o) (r : Reps B F vs ds) (p : P (.lst ds)) (k : ∀ v F' H' z, Gr NoA B 0 F H F' H' → Res .fr B Hb F' H' v z → P z → Q v H') :
    ∀ a, H a = none → Q (.ref a) (upd H a (.lst vs)) := fun a ha => by
  have g : Gr NoA B 0 F H F (upd H a (.lst vs)) := Gr.alloc0 e ha
  refine k _ _ _ (.lst ds) g ⟨a, rfl, ⟨e.back ha, fun q => ?_, .lst vs, upd_same, (show Cont B F (.lst vs) (.lst ds) from r)⟩, hb a ha⟩ p
  obtain ⟨o, ho⟩ := bx a q
  rw [ha] at ho
  cases ho

/-! ints -/
def fI (g : Int → Int → Int) (C : Int → Int → Prop) : Dat → Dat → (Dat → Prop) → Prop
  | .int i, .int j, P => C i j ∧ P (.int (g i j))
  | _, _, _ => False
theorem od_I {C : Int → Int → Prop} {g : Int → Int → Int} : OpD .rep (rI C fun i j => .int (g i j)) (fI g C) := fun B F H Hb x y d e P Q ex hb bx hx hy h k => by
  cases d <;> cases e <;> first | exact h.elim | skip
  cases sh_int hx
  cases sh_int hy
  exact ⟨_, _, rfl, rfl, h.1, opd_same ex .int h.2 k⟩
theorem od_I0 {g : Int → Int → Int} : OpD .rep (rI0 fun i j => .int (g i j)) (fI g fun _ _ => True) := fun B F H Hb x y d e P Q ex hb bx hx hy h k => by
  cases d <;> cases e <;> first | exact h.elim | skip
  cases sh_int hx
  cases sh_int hy
  exact ⟨_, _, rfl, rfl, opd_same ex .int h.2 k⟩
def fC (g : Int → Int → Bool) : Dat → Dat → (Dat → Prop) → Prop
  | .int i, .int j, P => P (.bl (g i j))
  | _, _, _ => False
theorem od_C {g : Int → Int → Bool} : OpD .rep (rI0 fun i j => .bl (g i j)) (fC g) := fun B F H Hb x y d e P Q ex hb bx hx hy h k => by
  cases d <;> cases e <;> first | exact h.elim | skip
  cases sh_int hx
  cases sh_int hy
  exact ⟨_, _, rfl, rfl, opd_same ex .bl h k⟩
theorem OpD.or {m : Md} {r r' : R2} {f f' : Dat → Dat → (Dat → Prop) → Prop} (h : OpD m r f) (h' : OpD m r' f') : OpD m (fun x y H Q => r x y H Q ∨ r' x y H Q) (fun d e P => f d e P ∨ f' d e P) := fun B F H Hb x y d e P Q ex hb bx hx hy h1 k => by
  rcases h1 with h1 | h1
  · exact .inl (h B F H Hb x y d e P Q ex hb bx hx hy h1 k)
  · exact .inr (h' B F H Hb x y d e P Q ex hb bx hx hy h1 k)
theorem OpD.imp {m : Md} {r : R2} {f f' : Dat → Dat → (Dat → Prop) → Prop} (h : OpD m r f) (hi : ∀ d e P, f' d e P → f d e P) : OpD m r f' := fun B F H Hb x y d e P Q ex hb bx hx hy h1 k => h B F H Hb x y d e P Q ex hb bx hx hy (hi d e P h1) k

/-! + -/
def fAdd : Dat → Dat → (Dat → Prop) → Prop
  | .int i, .int j, P => P (.int (i + j))
  | .int i, .bl k, P => P (.int (i + PyProof.Rows.b2i k))
  | .tup xs, .tup ys, P => xs.length + ys.length ≤ 100000 ∧ P (.tup (xs ++ ys))
  | .lst xs, .lst ys, P => xs.length + ys.length ≤ 100000 ∧ P (.lst (xs ++ ys))
  | _, _, _ => False
theorem sz5 {n : Nat} (h : n ≤ 100000) : n ≤ sizeLine := Nat.le_trans h (by decide)
theorem sz5lt {n : Nat} (h : n ≤ 100000) : n < sizeLine := Nat.lt_of_le_of_lt h (by decide)
def rAddA (K : PySem.W.Frag) : R2 := fun x y H Q => rI0 (fun i j => .int (i + j)) x y H Q ∨ ((∃ i k, x = .int i ∧ y = .bl k ∧ Q (.int (i + PyProof.Rows.b2i k)) H) ∨ (rCat x y H Q ∨ rCatF K x y H Q))
theorem op_addA : OpR X (binaryOp .Add) (rAddA X.K) := op_add.or (op_add_ib.or (op_cat.or op_catF))
theorem od_add : OpD .rep (rAddA X.K) fAdd := fun B F H Hb x y d e P Q ex hb bx hx hy h k => by
  cases d <;> cases e <;> first | exact h.elim | skip
  · cases sh_int hx
    cases sh_bl hy
    exact .inr (.inl ⟨_, _, rfl, rfl, opd_same ex .int h k⟩)
  · cases sh_int hx
    cases sh_int hy
    exact .inl ⟨_, _, rfl, rfl, opd_same ex .int h k⟩
  · obtain ⟨p, vs, rfl, h1, h2⟩ := sh_tup ex hx
    obtain ⟨q, ws, rfl, h3, h4⟩ := sh_tup ex hy
    refine .inr (.inr (.inr ⟨p, q, vs, ws, rfl, rfl, h1.sq, h3.sq, by rw [h2.length, h4.length]; exact sz5 h.1, fun e1 => ?_, fun _ e1 => ?_, fun _ _ => opd_tup ex (h2.append h4) h.2 k⟩))
    · subst e1
      cases h2
      rcases hy with hy | ⟨p', hv, w⟩
      · exact opd_same ex hy h.2 k
      · obtain ⟨o, _, c⟩ := w.con; cases o <;> exact c.elim
    · subst e1
      cases h4
      have h5 := h.2
      rw [List.append_nil] at h5
      rcases hx with hx | ⟨p', hv, w⟩
      · exact opd_same ex hx h5 k
      · obtain ⟨o, _, c⟩ := w.con; cases o <;> exact c.elim
  · obtain ⟨p, vs, rfl, h1, h2⟩ := sh_lst ex hx
    obtain ⟨q, ws, rfl, h3, h4⟩ := sh_lst ex hy
    exact .inr (.inr (.inl ⟨p, q, vs, ws, rfl, rfl, h1, h3, by rw [h2.length, h4.length]; exact sz5 h.1, opd_lst ex (h2.append h4) h.2 k⟩))
/-! * : ints, list * int (new, of one's own, or to stay) -/
def fMul : Dat → Dat → (Dat → Prop) → Prop
  | .int i, .int j, P => CMul i j ∧ P (.int (i * j))
  | .lst xs, .int j, P => j < 1000 ∧ -1000 < j ∧ xs.length ≤ 100 ∧ P (.lst (List.replicate j.toNat xs).flatten)
  | .tup xs, .int j, P => j < 1000 ∧ -1000 < j ∧ xs.length ≤ 100 ∧ P (.tup (List.replicate j.toNat xs).flatten)
  | _, _, _ => False
def rMulA (K : PySem.W.Frag) : R2 := fun x y H Q => rI CMul (fun i j => .int (i * j)) x y H Q ∨ (rRep x y H Q ∨ rRepF K x y H Q)
theorem op_mulA : OpR X (binaryOp .Mult) (rMulA X.K) := op_mul.or (op_rep.or op_repF)
theorem rep_sz {xs : List V} {j : Int} (h : j < 1000) (hx : xs.length ≤ 100) : xs.length * j.toNat ≤ sizeLine := by
  refine Nat.le_trans (Nat.mul_le_mul hx (show j.toNat ≤ 1000 by omega)) (by decide)
theorem od_mul : OpD .rep (rMulA X.K) fMul := fun B F H Hb x y d e P Q ex hb bx hx hy h k => by
  cases d <;> cases e <;> first | exact h.elim | skip
  · cases sh_int hx
    cases sh_int hy
    exact .inl ⟨_, _, rfl, rfl, h.1, opd_same ex .int h.2 k⟩
  · obtain ⟨p, vs, rfl, h1, h2⟩ := sh_tup ex hx
    cases sh_int hy
    obtain ⟨a1, a2, a3, a4⟩ := h
    refine .inr (.inr ⟨p, _, vs, rfl, rfl, h1.sq, by omega, by omega, by rw [h2.length]; omega, fun z => ?_, fun _ => opd_tup ex (h2.flatten _) a4 k⟩)
    rename_i xs j
    have e : (List.replicate j.toNat xs).flatten = xs := by
      rcases z with z | z
      · subst z
        cases h2
        simp
      · subst z
        simp
    rw [e] at a4
    rcases hx with hx | ⟨p', hv, w⟩
    · exact opd_same ex hx a4 k
    · obtain ⟨o, _, c⟩ := w.con; cases o <;> exact c.elim
  · obtain ⟨p, vs, rfl, h1, h2⟩ := sh_lst ex hx
    cases sh_int hy
    obtain ⟨a1, a2, a3, a4⟩ := h
    exact .inr (.inl ⟨p, _, vs, rfl, rfl, h1, by omega, by omega, rep_sz a1 (by rw [h2.length]; exact a3), opd_lst ex (h2.flatten _) a4 k⟩)
def fRepL : Dat → Dat → (Dat → Prop) → Prop
  | .lst xs, .int j, P => j < 1000 ∧ -1000 < j ∧ xs.length ≤ 100 ∧ P (.lst (List.replicate j.toNat xs).flatten)
  | _, _, _ => False
theorem od_repL : OpD .fr rRep fRepL := fun B F H Hb x y d e P Q ex hb bx hx hy h k => by
  cases d <;> cases e <;> first | exact h.elim | skip
  obtain ⟨p, vs, rfl, h1, h2⟩ := sh_lst ex hx
  cases sh_int hy
  obtain ⟨a1, a2, a3, a4⟩ := h
  exact ⟨p, _, vs, rfl, rfl, h1, by omega, by omega, rep_sz a1 (by rw [h2.length]; exact a3), opd_own ex hb bx (h2.flatten _) a4 k⟩

/-! == -/
def fEq : Dat → Dat → (Dat → Prop) → Prop := fun d e P => pl 20 d = true ∧ pl 20 e = true ∧ P (.bl (eqD d e))
def fNe : Dat → Dat → (Dat → Prop) → Prop := fun d e P => pl 20 d = true ∧ pl 20 e = true ∧ P (.bl (!eqD d e))
theorem od_eq : OpD .rep (rEqD X.K) fEq := fun B F H Hb x y d e P Q ex hb bx hx hy h k => by
  refine ⟨py d, py e, sh_dp ex hx h.1, sh_dp ex hy h.2.1, shaped_of h.1 (by decide), shaped_of h.2.1 (by decide), ?_⟩
  rw [eqv_py d e h.1 h.2.1]
  exact opd_same ex .bl h.2.2 k
theorem od_ne : OpD .rep (rNeD X.K) fNe := fun B F H Hb x y d e P Q ex hb bx hx hy h k => by
  refine ⟨py d, py e, sh_dp ex hx h.1, sh_dp ex hy h.2.1, shaped_of h.1 (by decide), shaped_of h.2.1 (by decide), ?_⟩
  rw [eqv_py d e h.1 h.2.1]
  exact opd_same ex .bl h.2.2 k
/-! is None, is of bools -/
def isNon : Dat → Bool
  | .non => true
  | _ => false
theorem isNon_sh {B : Option Addr} {Hb F H : Hp} {v : V} {d : Dat} (h : Res .sh B Hb F H v d) : decide (v = .non) = isNon d := by
  rcases h with h | ⟨p, hv, w⟩
  · cases h <;> simp [isNon]
  · subst hv
    obtain ⟨o, _, c⟩ := w.con
    cases o <;> cases d <;> first | exact c.elim | simp [isNon]
def fIs (neg : Bool) : Dat → Dat → (Dat → Prop) → Prop
  | .bl a, .bl b, P => P (.bl (neg != (a == b)))
  | d, .non, P => P (.bl (neg != isNon d))
  | _, _, _ => False
def rIsA : R2 := fun x y H Q => (y = .non ∧ Q (.bl (decide (x = .non))) H) ∨ (∃ a b, x = .bl a ∧ y = .bl b ∧ Q (.bl (decide (a = b))) H)
def rIsnA : R2 := fun x y H Q => (y = .non ∧ Q (.bl (!decide (x = .non))) H) ∨ (∃ a b, x = .bl a ∧ y = .bl b ∧ Q (.bl (!decide (a = b))) H)
theorem op_isA : OpR X (compareOp .Is) rIsA := op_isN.or op_is_bl
theorem op_isnA : OpR X (compareOp .IsNot) rIsnA := op_notN.or op_isnot_bl
theorem od_is : OpD .rep rIsA (fIs false) := fun B F H Hb x y d e P Q ex hb bx hx hy h k => by
  cases e with
  | non =>
    cases sh_non hy
    refine .inl ⟨rfl, ?_⟩
    rw [isNon_sh hx]
    refine opd_same ex .bl ?_ k
    cases d <;> simpa [fIs] using h
  | bl b =>
    cases d with
    | bl a =>
      cases sh_bl hx
      cases sh_bl hy
      refine .inr ⟨_, _, rfl, rfl, opd_same ex .bl ?_ k⟩
      have h1 : P (.bl (false != (a == b))) := h
      have e1 : (false != (a == b)) = decide (a = b) := by cases a <;> cases b <;> rfl
      rw [e1] at h1
      exact h1
    | _ => exact h.elim
  | _ => cases d <;> exact h.elim
theorem od_isn : OpD .rep rIsnA (fIs true) := fun B F H Hb x y d e P Q ex hb bx hx hy h k => by
  cases e with
  | non =>
    cases sh_non hy
    refine .inl ⟨rfl, ?_⟩
    rw [isNon_sh hx]
    refine opd_same ex .bl ?_ k
    cases d <;> simpa [fIs, isNon] using h
  | bl b =>
    cases d with
    | bl a =>
      cases sh_bl hx
      cases sh_bl hy
      refine .inr ⟨_, _, rfl, rfl, opd_same ex .bl ?_ k⟩
      have h1 : P (.bl (true != (a == b))) := h
      have e1 : (true != (a == b)) = !decide (a = b) := by cases a <;> cases b <;> rfl
      rw [e1] at h1
      exact h1
    | _ => exact h.elim
  | _ => cases d <;> exact h.elim
/-! in: lists (deep), tuples (flat), dicts -/
def keyD : Dat → Option Key
  | .int i => some (.inl i)
  | _ => none
def keysD : Dat → Option (List Key)
  | .tup xs => xs.mapM keyD
  | _ => none
def lookD {κ : Type} [DecidableEq κ] (kvs : List (κ × Dat)) (k : κ) : Option Dat := (kvs.find? fun kv => decide (kv.1 = k)).map (·.2)
theorem look_some {κ : Type} [DecidableEq κ] {B : Option Addr} {F : Hp} {k : κ} : ∀ {vs : List (κ × V)} {ks : List (κ × Dat)}, vs.map (·.1) = ks.map (·.1) → Reps B F (vs.map (·.2)) (ks.map (·.2)) →
    (∀ d, lookD ks k = some d → ∃ v, valV vs k = some v ∧ Rep B F v d) ∧ (lookD ks k = none → valV vs k = none)
  | [], [], _, _ => ⟨fun d h => by simp [lookD] at h, fun _ => rfl⟩
  | [], _ :: _, h, _ => by simp at h
  | _ :: _, [], h, _ => by simp at h
  | (k1, v) :: vs, (k2, d) :: ks, h, r => by
    simp only [List.map_cons, List.cons.injEq] at h
    obtain ⟨rfl, h⟩ := h
    simp only [List.map_cons] at r
    cases r with
    | cons r1 r2 =>
      have ih := look_some (k := k) h r2
      by_cases e : k1 = k
      · subst e
        refine ⟨fun d' h' => ⟨v, by simp [valV], ?_⟩, fun h' => by simp [lookD] at h'⟩
        simp [lookD] at h'
        subst h'
        exact r1
      · have e1 : lookD ((k1, d) :: ks) k = lookD ks k := by simp [lookD, e]
        have e2 : valV ((k1, v) :: vs) k = valV vs k := by simp [valV, e]
        rw [e1, e2]
        exact ih
def fIn (neg : Bool) : Dat → Dat → (Dat → Prop) → Prop
  | d, .lst xs, P => pl 20 d = true ∧ pl 20 (.lst xs) = true ∧ P (.bl (neg != xs.any fun z => eqD z d))
  | d, .tup xs, P => flatD d = true ∧ xs.all flatD = true ∧ P (.bl (neg != xs.any fun z => eqD z d))
  | d, .dct ks, P => ∃ k, keyD d = some k ∧ P (.bl (neg != (lookD ks k).isSome))
  | _, _, _ => False
def rDIn : R2 := fun y x H Q => ∃ a o, x = .ref a ∧ DGet H a y o ∧ Q (.bl o.isSome) H
def rDNotIn : R2 := fun y x H Q => ∃ a o, x = .ref a ∧ DGet H a y o ∧ Q (.bl (!o.isSome)) H
theorem op_din (hu : X.A.units + 1 < cLine) : OpR X (compareOp .In) rDIn := fun pins s σ H y x iv u Q I ry rx h => by
  obtain ⟨a, o, rfl, g, q⟩ := h
  obtain rfl : u = Value.ref a := rx
  exact d_in hu I g ry fun s' I' => ⟨.bl o.isSome, H, I', rfl, q⟩
theorem op_dnotin (hu : X.A.units + 1 < cLine) : OpR X (compareOp .NotIn) rDNotIn := fun pins s σ H y x iv u Q I ry rx h => by
  obtain ⟨a, o, rfl, g, q⟩ := h
  obtain rfl : u = Value.ref a := rx
  exact d_notIn hu I g ry fun s' I' => ⟨.bl (!o.isSome), H, I', rfl, q⟩
def rInA (K : PySem.W.Frag) : R2 := fun x y H Q => rIn K false x y H Q ∨ (rInD K x y H Q ∨ rDIn x y H Q)
def rNotInA (K : PySem.W.Frag) : R2 := fun x y H Q => rIn K true x y H Q ∨ (rNotInD K x y H Q ∨ rDNotIn x y H Q)
theorem op_inA (hu : X.A.units + 65 < cLine) : OpR X (compareOp .In) (rInA X.K) := op_in_seq.or ((op_inD hu).or (op_din (by omega)))
theorem op_notinA (hu : X.A.units + 65 < cLine) : OpR X (compareOp .NotIn) (rNotInA X.K) := op_notIn_seq.or ((op_notInD hu).or (op_dnotin (by omega)))
theorem pys_any {d : Dat} {n : Nat} (hd : pl n d = true) : ∀ {xs : List Dat} {m : Nat}, xs.all (pl m) = true → ((pys xs).any fun z => PyData.eqv z (py d)) = xs.any fun z => eqD z d
  | [], _, _ => by simp [pys]
  | x :: xs, m, h => by
    rw [List.all_cons, Bool.and_eq_true] at h
    simp only [pys, List.any_cons, eqv_py x d h.1 hd, pys_any hd h.2]
theorem keyD_rep {B : Option Addr} {F : Hp} {v : V} {d : Dat} {k : Key} (r : Rep B F v d) (h : keyD d = some k) : v = kV k := by
  cases r <;> simp [keyD] at h
  subst h
  rfl
theorem keysD_rep {B : Option Addr} {F : Hp} : ∀ {vs : List V} {ds : List Dat} {ks : List Key}, Reps B F vs ds → ds.mapM keyD = some ks → vs = ks.map kV
  | _, [], ks, .nil, h => by
    simp at h
    subst h
    rfl
  | _, d :: ds, ks, .cons r t, h => by
    simp only [List.mapM_cons] at h
    cases e1 : keyD d with
    | none => rw [e1] at h; simp at h
    | some k =>
      rw [e1] at h
      cases e2 : ds.mapM keyD with
      | none => rw [e2] at h; simp at h
      | some ks' =>
        rw [e2] at h
        simp at h
        subst h
        rw [List.map_cons, keyD_rep r e1, keysD_rep t e2]
theorem sh_key {B : Option Addr} {Hb F H : Hp} {v : V} {d : Dat} {k : Key} (hx : Res .sh B Hb F H v d) (h : keyD d = some k) : v = kV k := by
  rcases hx with r | ⟨p, _, w⟩
  · exact keyD_rep r h
  · obtain ⟨o, _, c⟩ := w.con
    cases d <;> first | (simp [keyD] at h; done) | (cases o <;> exact c.elim)
theorem dget_k {B : Option Addr} {F H : Hp} {v : V} {d : Dat} {Hb : Hp} {k : Key} {p : Addr} {vs : List (Key × V)} {ks : List (Key × Dat)} (hx : Res .sh B Hb F H v d) (h : keyD d = some k) (hp : H p = some (.dK vs)) : DGet H p v (valV vs k) := by
  rw [sh_key hx h]
  exact DGet.k hp
theorem look_isSome {κ : Type} [DecidableEq κ] {B : Option Addr} {F : Hp} {k : κ} {vs : List (κ × V)} {ks : List (κ × Dat)} (h : vs.map (·.1) = ks.map (·.1)) (r : Reps B F (vs.map (·.2)) (ks.map (·.2))) : (valV vs k).isSome = (lookD ks k).isSome := by
  obtain ⟨h1, h2⟩ := look_some (k := k) h r
  cases e : lookD ks k with
  | none => rw [h2 e]; rfl
  | some d => obtain ⟨v, hv, _⟩ := h1 d e; rw [hv]; rfl
theorem od_in : OpD .rep (rInA X.K) (fIn false) := fun B F H Hb x y d e P Q ex hb bx hx hy h k => by
  cases e with
  | lst xs =>
    obtain ⟨h1, h2, h3⟩ := h
    refine .inr (.inl ⟨py d, pys xs, sh_dp ex hx h1, ?_, shaped_of h1 (by decide), ?_, ?_⟩)
    · have := sh_dp (K := X.K) ex hy h2
      simpa only [py] using this
    · have := shaped_of h2 (by decide)
      simpa only [py] using this
    · rw [pys_any h1 (m := 19) h2]
      refine opd_same ex .bl ?_ k
      simpa using h3
  | tup xs =>
    obtain ⟨h1, h2, h3⟩ := h
    obtain ⟨p, vs, rfl, h4, h5⟩ := sh_tup ex hy
    have hx' : Rep B F x d := by
      rcases hx with r | ⟨p, _, w⟩
      · exact r
      · obtain ⟨o, _, c⟩ := w.con
        cases d <;> first | (simp [flatD] at h1; done) | (cases o <;> exact c.elim)
    refine .inl ⟨p, vs, rfl, .inr h4.sq, flat_rep hx' h1, flat_reps h5 h2, ?_⟩
    rw [if_neg Bool.false_ne_true, inV_eqD hx' h1 h5 h2]
    refine opd_same ex .bl ?_ k
    simpa using h3
  | dct ks =>
    obtain ⟨kk, h1, h2⟩ := h
    obtain ⟨p, vs, rfl, h4, h5, h6⟩ := sh_dct ex hy
    refine .inr (.inr ⟨p, _, rfl, dget_k (ks := ks) hx h1 h4, ?_⟩)
    rw [look_isSome h5 h6]
    refine opd_same ex .bl ?_ k
    simpa using h2
  | _ => exact h.elim
theorem od_notin : OpD .rep (rNotInA X.K) (fIn true) := fun B F H Hb x y d e P Q ex hb bx hx hy h k => by
  cases e with
  | lst xs =>
    obtain ⟨h1, h2, h3⟩ := h
    refine .inr (.inl ⟨py d, pys xs, sh_dp ex hx h1, ?_, shaped_of h1 (by decide), ?_, ?_⟩)
    · have := sh_dp (K := X.K) ex hy h2
      simpa only [py] using this
    · have := shaped_of h2 (by decide)
      simpa only [py] using this
    · rw [pys_any h1 (m := 19) h2]
      refine opd_same ex .bl ?_ k
      simpa using h3
  | tup xs =>
    obtain ⟨h1, h2, h3⟩ := h
    obtain ⟨p, vs, rfl, h4, h5⟩ := sh_tup ex hy
    have hx' : Rep B F x d := by
      rcases hx with r | ⟨p, _, w⟩
      · exact r
      · obtain ⟨o, _, c⟩ := w.con
        cases d <;> first | (simp [flatD] at h1; done) | (cases o <;> exact c.elim)
    refine .inl ⟨p, vs, rfl, .inr h4.sq, flat_rep hx' h1, flat_reps h5 h2, ?_⟩
    rw [if_pos rfl, inV_eqD hx' h1 h5 h2]
    refine opd_same ex .bl ?_ k
    simpa using h3
  | dct ks =>
    obtain ⟨kk, h1, h2⟩ := h
    obtain ⟨p, vs, rfl, h4, h5, h6⟩ := sh_dct ex hy
    refine .inr (.inr ⟨p, _, rfl, dget_k (ks := ks) hx h1 h4, ?_⟩)
    rw [look_isSome h5 h6]
    refine opd_same ex .bl ?_ k
    simpa using h2
  | _ => exact h.elim
/-! subscripts -/
def fIx : Dat → Dat → (Dat → Prop) → Prop
  | .lst xs, .int i, P => ∃ d, atI xs i = some d ∧ P d
  | .tup xs, .int i, P => ∃ d, atI xs i = some d ∧ P d
  | .dct ks, d, P => ∃ k e, keyD d = some k ∧ lookD ks k = some e ∧ P e
  | _, _, _ => False
def rDIx : R2 := fun x y H Q => ∃ a v, x = .ref a ∧ DGet H a y (some v) ∧ Q v H
theorem ix_dict (hu : X.A.units + 1 < cLine) : IxR X rDIx := by
  intro value slice pins s σ H x y v u Q I rx ry h hs
  obtain ⟨a, w, rfl, g, q⟩ := h
  obtain rfl : v = Value.ref a := rx
  exact PyProof.Rows.tail_any (dict_typeIs I g) PySem.F.slot_dict_getitem.lookup (d_getItem hu I g ry fun w' s3 I3 rw' => ⟨w, H, I3, rw', q⟩) hs
def rIxA (K : PySem.W.Frag) : R2 := fun x y H Q => rIxL K x y H Q ∨ (rIxT K x y H Q ∨ rDIx x y H Q)
theorem ix_all (hu : X.A.units + 1 < cLine) : IxR X (rIxA X.K) := ix_list.or (ix_tup.or (ix_dict hu))
theorem atI_reps {B : Option Addr} {F : Hp} {vs : List V} {ds : List Dat} {i : Int} {d : Dat} (r : Reps B F vs ds) (h : atI ds i = some d) : ∃ v, atI vs i = some v ∧ Rep B F v d := by
  unfold atI at h ⊢
  rw [r.length]
  cases e : ixN ds.length i with
  | none => rw [e] at h; cases h
  | some j =>
    rw [e] at h
    exact r.get h
theorem od_ix : OpD .rep (rIxA X.K) fIx := fun B F H Hb x y d e P Q ex hb bx hx hy h k => by
  cases d with
  | lst xs =>
    cases e <;> first | exact h.elim | skip
    obtain ⟨z, h1, h2⟩ := h
    obtain ⟨p, vs, rfl, h4, h5⟩ := sh_lst ex hx
    cases sh_int hy
    obtain ⟨v, h6, h7⟩ := atI_reps h5 h1
    exact .inl ⟨p, vs, _, v, rfl, rfl, SqL.of h4, h6, opd_same ex h7 h2 k⟩
  | tup xs =>
    cases e <;> first | exact h.elim | skip
    obtain ⟨z, h1, h2⟩ := h
    obtain ⟨p, vs, rfl, h4, h5⟩ := sh_tup ex hx
    cases sh_int hy
    obtain ⟨v, h6, h7⟩ := atI_reps h5 h1
    exact .inr (.inl ⟨p, vs, _, v, rfl, rfl, h4.sq, h6, opd_same ex h7 h2 k⟩)
  | dct ks =>
    obtain ⟨kk, z, h1, h2, h3⟩ := h
    obtain ⟨p, vs, rfl, h4, h5, h6⟩ := sh_dct ex hx
    obtain ⟨v, h7, h8⟩ := (look_some (k := kk) h5 h6).1 z h2
    refine .inr (.inr ⟨p, v, rfl, ?_, opd_same ex h8 h3 k⟩)
    rw [← h7]
    exact dget_k (ks := ks) hy h1 h4
  | _ => exact h.elim
end
end DL
set_option maxRecDepth 100000
set_option maxHeartbeats 1000000
/-! DL5: tests, displays, slices, calls, objects, a def's promise by data. -/
namespace DL
open PySem L2

section
variable {X : Cx} {e a b t0 : Expr} {rest : List Expr} {m : Md} {c c1 c2 c3 : Nat} {T Ta Tb Tc : TD} {Tt Tu : TTD} {pos : Pos}
/-! ### tests -/
def tV (T : TD) : TTD := fun ε P => T ε fun d => ∃ b, d = .bl b ∧ P b
theorem tv_run : ∀ σ H Q, liftT c (tV T) σ H Q → (fun σ H Q => lift .rep c T σ H fun x H1 => ∃ k, x = .bl k ∧ Q k H1 : TT) σ H Q := fun σ H Q ⟨A, B, F, ε, P, n, r, bx, hn, t, k⟩ =>
  ⟨A, B, F, ε, _, n, r, bx, hn, t, fun v F' H' d g q ⟨b, e, p⟩ => by
    subst e
    cases q
    exact ⟨b, rfl, k b F' H' g p⟩⟩
theorem ptd_val (h : PD .rep X c e T) (he : ∀ whole, isTrue e X.env whole = (do let v ← whole; standAt e.pos; holding [v] (truthy v)) := by intro _; rfl) : PTD X c e (tV T) := pt_weak (pt_val h he) tv_run
theorem ptd_cmp {op : CmpOp} {r : R2} {f : Dat → Dat → (Dat → Prop) → Prop} (ho : OpR X (compareOp op) r) (hr : OpD .rep r f) (ha : PD .sh X c1 a Ta) (hb : PD .sh X c2 b Tb) (hm : behindInMarks op b = false) : PTD X (c1 + c2) (.Compare a [op] [b] pos) (tV (dOp f Ta Tb)) :=
  pt_weak (pt_cmpR ho ha hb hm) fun σ H Q h => by
    obtain ⟨A, B, F, ε, P, n, rs, bx, hn, t, k⟩ := h
    exact op_run hr σ H _ ⟨A, B, F, ε, _, n, rs, bx, hn, t, fun v F' H' d g q ⟨b, e, p⟩ => by
      subst e
      cases q
      exact ⟨b, rfl, k b F' H' g p⟩⟩
def tNt (Tt : TTD) : TTD := fun ε P => Tt ε fun b => P (!b)
theorem ptd_not (h : PTD X c a Tt) : PTD X c (.UnaryOp .Not a pos) (tNt Tt) := pt_weak (pt_not h) fun σ H Q ⟨A, B, F, ε, P, n, r, bx, hn, t, k⟩ =>
  ⟨A, B, F, ε, _, n, r, bx, hn, t, fun b F' H' g p => k (!b) F' H' g p⟩
def tAn (Tt Tu : TTD) : TTD := fun ε P => Tt ε fun b => if b = true then Tu ε P else P false
def tOr (Tt Tu : TTD) : TTD := fun ε P => Tt ε fun b => if b = true then P true else Tu ε P
theorem pwd_and1 (h : PTD X c a Tt) : PWD X c (.BoolOp .And [a] pos) Tt := pw_and1 h
theorem pwd_or1 (h : PTD X c a Tt) : PWD X c (.BoolOp .Or [a] pos) Tt := pw_or1 h
theorem pwd_and (h : PTD X c1 a Tt) (h2 : PWD X c2 (.BoolOp .And (b :: rest) pos) Tu) : PWD X (c1 + c2) (.BoolOp .And (a :: b :: rest) pos) (tAn Tt Tu) := pw_weak (pw_and h h2) fun σ H Q ⟨A, B, F, ε, P, n, r, bx, hn, t, k⟩ => by
  refine ⟨A, B, F, ε, _, n, r, bx, by omega, t, fun b F1 H1 g1 p => ?_⟩
  cases b with
  | true => exact ⟨A, B, F1, ε, P, n + c1, r.gr g1, g1.box n bx, by omega, p, fun b F' H' g => k b F' H' (g1.trans g)⟩
  | false => exact k false F1 H1 (g1.mono (by omega)) p
theorem pwd_or (h : PTD X c1 a Tt) (h2 : PWD X c2 (.BoolOp .Or (b :: rest) pos) Tu) : PWD X (c1 + c2) (.BoolOp .Or (a :: b :: rest) pos) (tOr Tt Tu) := pw_weak (pw_or h h2) fun σ H Q ⟨A, B, F, ε, P, n, r, bx, hn, t, k⟩ => by
  refine ⟨A, B, F, ε, _, n, r, bx, by omega, t, fun b F1 H1 g1 p => ?_⟩
  cases b with
  | false => exact ⟨A, B, F1, ε, P, n + c1, r.gr g1, g1.box n bx, by omega, p, fun b F' H' g => k b F' H' (g1.trans g)⟩
  | true => exact k true F1 H1 (g1.mono (by omega)) p
theorem PWD.pt (h : PWD X c e Tt) : PTD X c e Tt := PW.pt h
/-! as values -/
def dAn (Ta Tb : TD) : TD := fun ε P => Ta ε fun d => ∃ b, d = .bl b ∧ if b = true then Tb ε P else P (.bl false)
def dOr (Ta Tb : TD) : TD := fun ε P => Ta ε fun d => ∃ b, d = .bl b ∧ if b = true then P (.bl true) else Tb ε P
def dNt (Ta : TD) : TD := fun ε P => Ta ε fun d => ∃ b, d = .bl b ∧ P (.bl (!b))
theorem pd_one {op} (h : PD .rep X c a T) : PD .rep X c (.BoolOp op [a] pos) T := pe_one h
theorem pd_and (h : PD .rep X c1 a Ta) (h2 : PD .rep X c2 (.BoolOp .And (b :: rest) pos) Tb) : PD .rep X (c1 + c2) (.BoolOp .And (a :: b :: rest) pos) (dAn Ta Tb) := pe_weak (pe_and h h2) fun σ H Q ⟨A, B, F, ε, P, n, r, bx, hn, t, k⟩ => by
  refine ⟨A, B, F, ε, _, n, r, bx, by omega, t, fun v F1 H1 d g1 q ⟨b, e, p⟩ => ?_⟩
  subst e
  cases q
  refine ⟨b, rfl, ?_⟩
  cases b with
  | true => exact ⟨A, B, F1, ε, P, n + c1, r.gr g1, g1.box n bx, by omega, p, fun v F' H' d g => k v F' H' d (g1.trans g)⟩
  | false => exact k _ F1 H1 _ (g1.mono (by omega)) Rep.bl p
theorem pd_or (h : PD .rep X c1 a Ta) (h2 : PD .rep X c2 (.BoolOp .Or (b :: rest) pos) Tb) : PD .rep X (c1 + c2) (.BoolOp .Or (a :: b :: rest) pos) (dOr Ta Tb) := pe_weak (pe_or h h2) fun σ H Q ⟨A, B, F, ε, P, n, r, bx, hn, t, k⟩ => by
  refine ⟨A, B, F, ε, _, n, r, bx, by omega, t, fun v F1 H1 d g1 q ⟨b, e, p⟩ => ?_⟩
  subst e
  cases q
  refine ⟨b, rfl, ?_⟩
  cases b with
  | false => exact ⟨A, B, F1, ε, P, n + c1, r.gr g1, g1.box n bx, by omega, p, fun v F' H' d g => k v F' H' d (g1.trans g)⟩
  | true => exact k _ F1 H1 _ (g1.mono (by omega)) Rep.bl p
theorem pd_not (h : PD .rep X c a Ta) : PD .rep X c (.UnaryOp .Not a pos) (dNt Ta) := pe_weak (pe_not h) fun σ H Q ⟨A, B, F, ε, P, n, r, bx, hn, t, k⟩ =>
  ⟨A, B, F, ε, _, n, r, bx, hn, t, fun v F1 H1 d g1 q ⟨b, e, p⟩ => by
    subst e
    cases q
    exact ⟨b, rfl, k _ F1 H1 _ g1 Rep.bl p⟩⟩
def dIf (Tt : TTD) (Ta Tb : TD) : TD := fun ε P => Tt ε fun b => if b = true then Ta ε P else Tb ε P
theorem pd_if (ht : PTD X c1 t0 Tt) (ha : PD m X c2 a Ta) (hb : PD m X c3 b Tb) : PD m X (c1 + (c2 + c3)) (.IfExp t0 a b pos) (dIf Tt Ta Tb) := pe_weak (pe_ifExp ht ha hb) fun σ H Q ⟨A, B, F, ε, P, n, r, bx, hn, t, k⟩ => by
  refine ⟨A, B, F, ε, _, n, r, bx, by omega, t, fun b F1 H1 g1 p => ?_⟩
  have up : ∀ {v F' H' d}, Res m B H1 F' H' v d → Res m B H F' H' v d := fun {v F' H' d} h => by
    cases m with
    | rep => exact h
    | sh => exact h
    | fr =>
      obtain ⟨p, h1, h2, h3⟩ := h
      exact ⟨p, h1, h2, g1.free h3⟩
  cases b with
  | true => exact ⟨A, B, F1, ε, P, n + c1, r.gr g1, g1.box n bx, by omega, p, fun v F' H' d g q => k v F' H' d ((g1.trans g).mono (by omega)) (up q)⟩
  | false => exact ⟨A, B, F1, ε, P, n + c1, r.gr g1, g1.box n bx, by omega, p, fun v F' H' d g q => k v F' H' d ((g1.trans g).mono (by omega)) (up q)⟩
/-- a < b < c -/
def dCh (f f' : Dat → Dat → (Dat → Prop) → Prop) (Ta Tb Tc : TD) : TD := fun ε P => Ta ε fun x => Tb ε fun y => f x y fun z => ∃ k, z = .bl k ∧ if k = true then Tc ε fun w => f' y w P else P (.bl false)
theorem ch_run {r r' : R2} {f f' : Dat → Dat → (Dat → Prop) → Prop} (hr : OpD .rep r f) (hr' : OpD .rep r' f') : ∀ σ H Q, lift .rep (c1 + (c2 + c3)) (dCh f f' Ta Tb Tc) σ H Q → tChain r r' (lift .sh c1 Ta) (lift .sh c2 Tb) (lift .sh c3 Tc) σ H Q := fun σ H Q ⟨A, B, F, ε, P, n, rs, bx, hn, t, k⟩ => by
  refine ⟨A, B, F, ε, _, n, rs, bx, by omega, t, fun x F1 H1 d g1 q1 t1 => ?_⟩
  refine ⟨A, B, F1, ε, _, n + c1, rs.gr g1, g1.box n bx, by omega, t1, fun y F2 H2 e g2 q2 t2 => ?_⟩
  have rs2 := (rs.gr g1).gr g2
  refine hr B F2 H2 H x y d e _ _ rs2.ex (fun a h => g1.free (g2.free h)) (fun b hb => (rs2.bx b hb).2.2) (q1.gr g2) q2 t2 fun v F3 H3 z g3 q3 ⟨kk, e3, p3⟩ => ?_
  subst e3
  cases q3
  refine ⟨kk, rfl, ?_⟩
  have g13 := (g1.trans g2).trans g3
  cases kk with
  | true =>
    refine ⟨A, B, F3, ε, _, n + (c1 + c2 + 0), rs.gr g13, g13.box n bx, by omega, p3, fun w F4 H4 u g4 q4 t4 => ?_⟩
    have rs4 := (rs.gr g13).gr g4
    refine hr' B F4 H4 H y w e u P Q rs4.ex (fun a h => g13.free (g4.free h)) (fun b hb => (rs4.bx b hb).2.2) ((q2.gr g3).gr g4) q4 t4 fun v F5 H5 z g5 q5 p5 => ?_
    exact k v F5 H5 z (((g13.trans g4).trans g5).mono (by omega)) q5 p5
  | false => exact k _ F3 H3 _ (g13.mono (by omega)) Rep.bl p3
theorem pd_chain {op op' : CmpOp} {r r' : R2} {f f' : Dat → Dat → (Dat → Prop) → Prop} {cx : Expr} (ho : OpR X (compareOp op) r) (ho' : OpR X (compareOp op') r') (hr : OpD .rep r f) (hr' : OpD .rep r' f') (ha : PD .sh X c1 a Ta) (hb : PD .sh X c2 b Tb) (hc : PD .sh X c3 cx Tc)
    (hm : lastMarks [op, op'] [b, cx] = false := by with_unfolding_all rfl) : PD .rep X (c1 + (c2 + c3)) (.Compare a [op, op'] [b, cx] pos) (dCh f f' Ta Tb Tc) := pe_weak (pe_chain ho ho' ha hb hc hm) (ch_run hr hr')
theorem ptd_chain {op op' : CmpOp} {r r' : R2} {f f' : Dat → Dat → (Dat → Prop) → Prop} {cx : Expr} (ho : OpR X (compareOp op) r) (ho' : OpR X (compareOp op') r') (hr : OpD .rep r f) (hr' : OpD .rep r' f') (ha : PD .sh X c1 a Ta) (hb : PD .sh X c2 b Tb) (hc : PD .sh X c3 cx Tc)
    (hm : lastMarks [op, op'] [b, cx] = false := by with_unfolding_all rfl) : PTD X (c1 + (c2 + c3)) (.Compare a [op, op'] [b, cx] pos) (tV (dCh f f' Ta Tb Tc)) := pt_weak (pt_chain ho ho' ha hb hc hm) fun σ H Q h => by
  obtain ⟨A, B, F, ε, P, n, rs, bx, hn, t, k⟩ := h
  exact ch_run hr hr' σ H _ ⟨A, B, F, ε, _, n, rs, bx, hn, t, fun v F' H' d g q ⟨b, e, p⟩ => by
    subst e
    cases q
    exact ⟨b, rfl, k b F' H' g p⟩⟩

/-! ### displays -/
def aStar (T : TD) (U : TAD) : TAD := fun ε P => T ε fun d => ∃ xs, (d = .lst xs ∨ d = .tup xs) ∧ U ε fun ds => P (xs ++ ds)
theorem pad_star {es : List Expr} {U : TAD} {p : Pos} (h : PD .sh X c1 e T) (h2 : PAD X c2 es U) (hs : starEach (.Starred e p :: es) X.env = (true, eval e X.env) :: starEach es X.env := by rfl) : PAD X (c1 + c2) (.Starred e p :: es) (aStar T U) :=
  pa_weak (StX.pa_star h h2 hs) fun σ H Q ⟨A, B, F, ε, P, n, r, bx, hn, t, k⟩ =>
    ⟨A, B, F, ε, _, n, r, bx, by omega, t, fun v F1 H1 d g1 q1 ⟨xs, e1, t1⟩ => by
      have fin : ∀ {vs}, Reps B F1 vs xs → liftA c2 U σ H1 fun ys H2 => Q (vs ++ ys) H2 := fun {vs} rv =>
        ⟨A, B, F1, ε, _, n + c1, r.gr g1, g1.box n bx, by omega, t1, fun ys F2 H2 ds g2 q2 p => k (vs ++ ys) F2 H2 (xs ++ ds) (g1.trans g2) ((rv.mono g2.ex).append q2) p⟩
      rcases e1 with rfl | rfl
      · obtain ⟨p, vs, rfl, h3, h4⟩ := sh_lst g1.sub q1
        exact ⟨p, vs, rfl, .inr (SqL.of h3), fin h4⟩
      · obtain ⟨p, vs, rfl, h3, h4⟩ := sh_tup g1.sub q1
        exact ⟨p, vs, rfl, .inl h3.sq, fin h4⟩⟩
def dTup (U : TAD) : TD := fun ε P => U ε fun ds => ds.length ≤ 100000 ∧ P (.tup ds)
def dLst (U : TAD) : TD := fun ε P => U ε fun ds => ds.length ≤ 100000 ∧ P (.lst ds)
theorem pd_tup {es : List Expr} {U : TAD} {x1 : Nat} (h : PAD X c es U) : PD .rep X c (.Tuple es x1 pos) (dTup U) := pe_weak (pe_tupF h) fun σ H Q ⟨A, B, F, ε, P, n, r, bx, hn, t, k⟩ =>
  ⟨A, B, F, ε, _, n, r, bx, hn, t, fun vs F1 H1 ds g1 q1 ⟨hl, p⟩ => ⟨by rw [q1.length]; exact sz5 hl, opd_tup (Hb := H) g1.sub q1 p fun v F2 H2 z g2 q2 p2 => k v F2 H2 z (g1.trans g2) q2 p2⟩⟩
theorem pd_lst {es : List Expr} {U : TAD} (h : PAD X c es U) : PD .fr X c (.List es pos) (dLst U) := pe_weak (pe_lst h) fun σ H Q ⟨A, B, F, ε, P, n, r, bx, hn, t, k⟩ =>
  ⟨A, B, F, ε, _, n, r, bx, hn, t, fun vs F1 H1 ds g1 q1 ⟨hl, p⟩ => ⟨by rw [q1.length]; exact sz5 hl, opd_own (Hb := H) g1.sub (fun a h => g1.free h) (fun b hb => ((r.gr g1).bx b hb).2.2) q1 p fun v F2 H2 z g2 q2 p2 => k v F2 H2 z (g1.trans g2) q2 p2⟩⟩

/-! ### slices -/
abbrev TOD := Ev → (Option Int → Prop) → Prop
def liftO (c : Nat) (T : TOD) : TO := fun σ H Q => ∃ (A : Addr → Prop) (B : Option Addr) (F : Hp) (ε : Ev) (P : Option Int → Prop) (n : Nat),
  Rs A B F H σ ε ∧ BoxAt B H n ∧ n + c ≤ CAP ∧ T ε P ∧ ∀ o F' H', Gr NoA B c F H F' H' → P o → Q o H'
def POD (X : Cx) (c : Nat) (e : Option Expr) (T : TOD) : Prop := PO X e (liftO c T)
theorem po_weak {e : Option Expr} {t t' : TO} (h : PO X e t) (w : ∀ σ H Q, t' σ H Q → t σ H Q) : PO X e t' := ⟨fun pins s σ H Q I q => h.run pins s σ H Q I (w σ H Q q)⟩
def oNone : TOD := fun _ P => P none
def oSome (T : TD) : TOD := fun ε P => T ε fun d => ∃ i, d = .int i ∧ P (some i)
theorem pod_none : POD X 0 none oNone := po_weak po_none fun σ H Q ⟨A, B, F, ε, P, n, r, bx, hn, t, k⟩ => k none F H (Gr.refl r.ex) t
theorem pod_some (h : PD .rep X c e T) : POD X c (some e) (oSome T) := po_weak (po_some h) fun σ H Q ⟨A, B, F, ε, P, n, r, bx, hn, t, k⟩ =>
  ⟨A, B, F, ε, _, n, r, bx, hn, t, fun v F' H' d g q ⟨i, e1, p⟩ => by
    subst e1
    cases q
    exact ⟨i, rfl, k (some i) F' H' g p⟩⟩
def cut {α : Type} (xs : List α) (lo hi : Option Int) : List α := (xs.drop (HT.sIx xs.length 0 lo)).take (HT.sIx xs.length xs.length hi - HT.sIx xs.length 0 lo)
def fSl : Dat → Option Int → Option Int → (Dat → Prop) → Prop
  | .lst xs, lo, hi, P => P (.lst (cut xs lo hi))
  | .tup xs, lo, hi, P => P (.tup (cut xs lo hi))
  | _, _, _, _ => False
def dSl (T : TD) (U V : TOD) : TD := fun ε P => T ε fun d => U ε fun lo => V ε fun hi => fSl d lo hi P
theorem cut_reps {B : Option Addr} {F : Hp} {vs : List V} {ds : List Dat} (r : Reps B F vs ds) (lo hi : Option Int) : Reps B F (cutV vs lo hi) (cut ds lo hi) := by
  unfold cutV cut
  rw [r.length]
  exact (r.drop _).take _
theorem cut_all {α : Type} {xs : List α} {lo hi : Option Int} (h1 : HT.sIx xs.length 0 lo = 0) (h2 : HT.sIx xs.length xs.length hi = xs.length) : cut xs lo hi = xs := by
  unfold cut
  rw [h1, h2]
  simp
def rSlZ (K : PySem.W.Frag) : V → Option Int → Option Int → Hp → VK → Prop := fun x lo hi H Q => rSlL K x lo hi H Q ∨ rSlF K x lo hi H Q
theorem pd_slice {lo hi : Option Expr} {U V : TOD} {p2 : Pos} (h : PD .sh X c1 e T) (hl : POD X c2 lo U) (hh : POD X c3 hi V) : PD .rep X (c1 + (c2 + c3)) (.Subscript e (.Slice lo hi none p2) pos) (dSl T U V) :=
  pe_weak (pe_slice (SlR.or sl_list sl_tupF) h hl hh) fun σ H Q ⟨A, B, F, ε, P, n, r, bx, hn, t, k⟩ => by
    refine ⟨A, B, F, ε, _, n, r, bx, by omega, t, fun v F1 H1 d g1 q1 t1 => ?_⟩
    refine ⟨A, B, F1, ε, _, n + c1, r.gr g1, g1.box n bx, by omega, t1, fun lo F2 H2 g2 t2 => ?_⟩
    refine ⟨A, B, F2, ε, _, n + (c1 + c2), r.gr (g1.trans g2), (g1.trans g2).box n bx, by omega, t2, fun hi F3 H3 g3 t3 => ?_⟩
    have g := (g1.trans g2).trans g3
    have q3 := (q1.gr g2).gr g3
    cases d with
    | lst xs =>
      obtain ⟨p, vs, rfl, h1, h2⟩ := sh_lst g.sub q3
      refine .inl ⟨p, vs, rfl, SqL.of h1, opd_lst (Hb := H) g.sub (cut_reps h2 lo hi) t3 fun v F4 H4 z g4 q4 p4 => k v F4 H4 z ((g.trans g4).mono (by omega)) q4 p4⟩
    | tup xs =>
      obtain ⟨p, vs, rfl, h1, h2⟩ := sh_tup g.sub q3
      refine .inr ⟨p, vs, rfl, h1.sq, fun ⟨e1, e2⟩ => ?_, fun _ => opd_tup (Hb := H) g.sub (cut_reps h2 lo hi) t3 fun v F4 H4 z g4 q4 p4 => k v F4 H4 z ((g.trans g4).mono (by omega)) q4 p4⟩
      have t4 : P (.tup (cut xs lo hi)) := t3
      rw [h2.length] at e1 e2
      rw [cut_all e1 e2] at t4
      refine k _ F3 H3 (.tup xs) (g.mono (by omega)) ?_ t4
      rcases q3 with q3 | ⟨p', hv, w⟩
      · exact q3
      · obtain ⟨o, _, c⟩ := w.con; cases o <;> exact c.elim
    | _ => exact t3.elim

/-! ### attributes -/
theorem lookF {B : Option Addr} {F : Hp} {f : Str} : ∀ {fs : List (Str × V)} {xs : List (Str × Dat)} {d : Dat}, fs.map (·.1) = xs.map (·.1) → Reps B F (fs.map (·.2)) (xs.map (·.2)) → xs.lookup f = some d → ∃ v, fs.lookup f = some v ∧ Rep B F v d
  | [], [], _, _, _, h => by simp at h
  | [], _ :: _, _, h, _, _ => by simp at h
  | _ :: _, [], _, h, _, _ => by simp at h
  | (k1, v) :: fs, (k2, d0) :: xs, d, h, r, hl => by
    simp only [List.map_cons, List.cons.injEq] at h
    obtain ⟨rfl, h⟩ := h
    simp only [List.map_cons] at r
    cases r with
    | cons r1 r2 =>
      rw [List.lookup_cons] at hl ⊢
      cases e : (f == k1) with
      | true =>
        rw [e] at hl
        cases hl
        exact ⟨v, rfl, r1⟩
      | false =>
        rw [e] at hl
        exact lookF h r2 hl
theorem lookN {f : Str} : ∀ {fs : List (Str × V)} {xs : List (Str × Dat)}, fs.map (·.1) = xs.map (·.1) → xs.lookup f = none → fs.lookup f = none
  | [], [], _, _ => rfl
  | [], _ :: _, h, _ => by simp at h
  | _ :: _, [], h, _ => by simp at h
  | (k1, v) :: fs, (k2, d0) :: xs, h, hl => by
    simp only [List.map_cons, List.cons.injEq] at h
    obtain ⟨rfl, h⟩ := h
    rw [List.lookup_cons] at hl ⊢
    cases e : (f == k1) with
    | true => rw [e] at hl; cases hl
    | false =>
      rw [e] at hl
      exact lookN h hl
def dFld (C : Addr) (T : TD) (f : Str) : TD := fun ε P => T ε fun d => ∃ xs z, d = .obj C xs ∧ xs.lookup f = some z ∧ P z
theorem pd_fld {C : Addr} {f : Str} (cl : Cls X.K C) (na : NoAttr X.K C f) (h : PD .rep X c e T) (hb : attributeBase e f X.env (eval e X.env) = eval e X.env := by rfl) : PD .rep X c (.Attribute e f pos) (dFld C T f) :=
  pe_weak (pe_fld h hb) fun σ H Q ⟨A, B, F, ε, P, n, r, bx, hn, t, k⟩ => ⟨A, B, F, ε, _, n, r, bx, hn, t, fun v F' H' d g q ⟨xs, z, e1, h1, p⟩ => by
    subst e1
    cases q with
    | @obj q C dx fs xs h2 h3 h4 =>
      obtain ⟨w, h5, h6⟩ := lookF h3 h4 h1
      exact ⟨q, C, dx, fs, w, rfl, g.sub _ _ h2, cl, na, h5, k w F' H' z g h6 p⟩⟩
end

/-! ### a def's promise by data -/
def Bx (B : Option Addr) (F H : Hp) : Prop := ∀ b, B = some b → F b = none ∧ ∃ o, H b = some o
def spF (c : Nat) (S : List Dat → (Dat → Prop) → Prop) : Sp := fun vs H Q _ => ∃ (B : Option Addr) (F : Hp) (ds : List Dat) (P : Dat → Prop) (n : Nat),
  Ex F H ∧ Bx B F H ∧ BoxAt B H n ∧ n + c ≤ CAP ∧ Reps B F vs ds ∧ S ds P ∧ ∀ v F' H' d, Gr NoA B c F H F' H' → Rep B F' v d → P d → Q v H'
theorem Rs.bx2 {A : Addr → Prop} {B : Option Addr} {F H : Hp} {σ : L2.St} {ε : Ev} (r : Rs A B F H σ ε) : Bx B F H := fun b hb => ⟨(r.bx b hb).1, (r.bx b hb).2.2⟩
section
variable {X : Cx} {k : Nat} {f C : Addr} {fd : FuncData} {ps ks : List Str} {x mth : Str} {p pos apos : Pos} {e o : Expr} {es : List Expr} {kws : List Keyword} {c ca cb co : Nat} {S : List Dat → (Dat → Prop) → Prop} {U W : TAD} {T : TD}
def dCall (S : List Dat → (Dat → Prop) → Prop) (U : TAD) : TD := fun ε P => U ε fun ds => S ds P
theorem call_run : ∀ σ H Q, lift .rep (ca + c) (dCall S U) σ H Q → tCall (spF c S) [] E0 (liftA ca U) σ H Q := fun σ H Q ⟨A, B, F, ε, P, n, r, bx, hn, t, k⟩ =>
  ⟨A, B, F, ε, _, n, r, bx, by omega, t, fun vs F1 H1 ds g1 q1 t1 => by
    simp only [List.append_nil]
    exact ⟨B, F1, ds, P, n + ca, g1.sub, (r.gr g1).bx2, g1.box n bx, by omega, q1, t1, fun v F2 H2 d g2 q2 p => k v F2 H2 d (g1.trans g2) q2 p⟩⟩
theorem pd_call (F : FnOk X.prog X.w X.K X.mg X.base CX0 k f fd ps (spF c S)) (hr : Room k X.A) (hg : Gl X x) (hm : X.mg x = some (.ref f)) (hk : PySem.W.keepIn X.K (.ref f) = true) (hb : Binds X.K fd ps []) (ha : PAD X ca (e :: es) U)
    (hdb : (x == ("__debug__" : Str)) = false := by decide) (he : starEach (e :: es) X.env = (false, eval e X.env) :: starEach es X.env := by rfl) (hpl : (backTo pos (starEach es X.env)).any (·.1) = false := by rfl) :
    PD .rep X (ca + c) (.Call (.Name x p) (e :: es) [] pos) (dCall S U) := pe_weak (pe_call F hr hg hm hk hb .nil pass0 ha hdb he hpl) call_run
theorem pd_call0 (F : FnOk X.prog X.w X.K X.mg X.base CX0 k f fd ps (spF c S)) (hr : Room k X.A) (hg : Gl X x) (hm : X.mg x = some (.ref f)) (hk : PySem.W.keepIn X.K (.ref f) = true) (hb : Binds X.K fd ps [])
    (hdb : (x == ("__debug__" : Str)) = false := by decide) : PD .rep X c (.Call (.Name x p) [] [] pos) (dCall S aNil) := pe_weak (pe_call0 F hr hg hm hk hb .nil pass0 hdb) fun σ H Q ⟨A, B, F, ε, P, n, r, bx, hn, t, k⟩ =>
  ⟨B, F, [], P, n, r.ex, r.bx2, bx, hn, .nil, t, fun v F2 H2 d g2 q2 p => k v F2 H2 d g2 q2 p⟩
/-! keywords: the values of the keywords in the parameters' order -/
def gK {α : Type} (perm : List Nat) (us ws : List α) : List α := us ++ perm.filterMap fun i => ws[i]?
theorem gK_rel {vs zs : List V} {us ws : List Value} (perm : List Nat) (h : Vals vs us) (h2 : Vals zs ws) : Vals (gK perm vs zs) (gK perm us ws) := by
  refine h.append ?_
  induction perm with
  | nil => exact .nil
  | cons i is ih =>
    cases e : zs[i]? with
    | none =>
      rw [List.filterMap_cons_none e, List.filterMap_cons_none (h2.none_of e)]
      exact ih
    | some v =>
      obtain ⟨u, hu, r⟩ := h2.get e
      rw [List.filterMap_cons_some e, List.filterMap_cons_some hu]
      exact .cons r ih
theorem gK_reps {B : Option Addr} {F : Hp} {vs zs : List V} {us ws : List Dat} (perm : List Nat) (h : Reps B F vs us) (h2 : Reps B F zs ws) : Reps B F (gK perm vs zs) (gK perm us ws) := by
  refine h.append ?_
  induction perm with
  | nil => exact .nil
  | cons i is ih =>
    cases e : zs[i]? with
    | none =>
      have : ws[i]? = none := by
        have h1 : zs.length ≤ i := List.getElem?_eq_none_iff.mp e
        rw [h2.length] at h1
        exact List.getElem?_eq_none_iff.mpr h1
      rw [List.filterMap_cons_none e, List.filterMap_cons_none this]
      exact ih
    | some v =>
      obtain ⟨u, hu, r⟩ := h2.getV e
      rw [List.filterMap_cons_some e, List.filterMap_cons_some hu]
      exact .cons r ih
theorem kb_of {K : PySem.W.Frag} {nm qual : Str} {params : Arguments} {body : List Stmt} {scope : Scope} {kw0 : List (Str × L2.V)} (F : FunD K nm qual params body scope [] kw0 f fd) (n : Nat) (perm : List Nat)
    (h : ∀ (kV doc pm : Value) (an : Option Addr) (cdv ct : Value) (us ws : List Value), us.length = n → ws.length = ks.length → bindArgs (PySem.W.fnOf nm qual params body scope .none kV doc pm an cdv ct) ⟨us, ks.zip ws⟩ = pure (ps.zip (gK perm us ws))) :
    KBn K fd ps n ks (gK perm) (gK perm) := by
  obtain ⟨oc, od, dV, kV, doc, pm, an, cdv, ct, osl, rfl, lk, hcd, hD, hK⟩ := F.ex
  rcases hD with ⟨_, rfl⟩ | ⟨e, _⟩
  · exact ⟨fun s us ws _ l1 l2 => .of_eq (h kV doc pm an cdv ct us ws l1 l2), fun r1 r2 => gK_rel perm r1 r2⟩
  · exact absurd rfl e
theorem run_kn {X : Cx} {CX : CXT} {sp : Sp} {E : XK} {g : List Value → List Value → List Value} {gV : List L2.V → List L2.V → List L2.V} {nn : Nat} {pins : List (Addr × Obj)} {σ : L2.St} {H : Hp} {s : Shared} {Q : VK} {us ws : List Value} {vs zs : List L2.V} (F : FnOk X.prog X.w X.K X.mg X.base CX k f fd ps sp) (hr : Room k X.A) (hb : KBn X.K fd ps nn ks g gV) (hx : Passes CX X E)
    (I : L2.Inv X pins σ H s) (r : Vals vs us) (rz : Vals zs ws) (l1 : vs.length = nn) (l2 : zs.length = ks.length) (h : sp (gV vs zs) H Q E) : wpAny (model X.prog X.w) X.A (call (.ref f) us (ks.zip ws)) (EP X pins σ Q) X.xe s := by
  have r2 := hb.rel r rz
  refine wpAny_call (codeAny_mono (F.run X.A X.stack s H ⟨us, ks.zip ws⟩ (g us ws) (gV vs zs) Q E hr I.env0 (hb.to s us ws I.kIn (r.length.symm.trans l1) (rz.length.symm.trans l2)) r2 h) fun r s' hq => ?_)
  cases r with
  | error e => exact hx pins σ H s e s' I hq
  | ok fl =>
    cases fl with
    | ret u => exact I.after hq
    | next => exact False.elim hq
    | brk => exact False.elim hq
    | cont => exact False.elim hq
def PKD (X : Cx) (c : Nat) (kws : List Keyword) (T : TAD) : Prop := PK X kws (liftA c T)
theorem pk_weak {t t' : TA} (h : PK X kws t) (w : ∀ σ H Q, t' σ H Q → t σ H Q) : PK X kws t' := ⟨fun pos pins s σ H Q I q => h.run pos pins s σ H Q I (w σ H Q q)⟩
theorem pkd_nil : PKD X 0 [] aNil := pk_weak pk_nil fun σ H Q ⟨A, B, F, ε, P, n, r, bx, hn, t, k⟩ => k [] F H [] (Gr.refl r.ex) .nil t
theorem pkd_cons {nm : Option Str} {kpos : Pos} (h : PD .rep X ca e T) (h2 : PKD X cb kws U) : PKD X (ca + cb) (⟨nm, e, kpos⟩ :: kws) (aCons T U) := pk_weak (pk_cons h h2) fun σ H Q ⟨A, B, F, ε, P, n, r, bx, hn, t, k⟩ =>
  ⟨A, B, F, ε, _, n, r, bx, by omega, t, fun v F1 H1 d g1 q1 t1 => ⟨A, B, F1, ε, _, n + ca, r.gr g1, g1.box n bx, by omega, t1, fun vs F2 H2 ds g2 q2 p => k (v :: vs) F2 H2 (d :: ds) (g1.trans g2) (.cons (q1.mono g2.ex) q2) p⟩⟩
def dCallK (S : List Dat → (Dat → Prop) → Prop) (n m : Nat) (perm : List Nat) (U W : TAD) : TD := fun ε P => U ε fun ds => W ε fun es => ds.length = n ∧ es.length = m ∧ S (gK perm ds es) P
/-- f(k = v, ..) -/
theorem pd_callK0 {perm : List Nat} (F : FnOk X.prog X.w X.K X.mg X.base CX0 k f fd ps (spF c S)) (hr : Room k X.A) (hg : Gl X x) (hm : X.mg x = some (.ref f)) (hk : PySem.W.keepIn X.K (.ref f) = true) (hb : KBn X.K fd ps 0 ks (gK perm) (gK perm)) (hkw : PKD X cb kws W)
    (hall : (backToKw pos (keywordEach kws X.env)).all (·.1.isSome) = true := by rfl) (hks : (backToKw pos (keywordEach kws X.env)).filterMap (·.1) = ks := by rfl) (hdb : (x == ("__debug__" : Str)) = false := by decide)
    (hpl : ((backTo pos (starEach [] X.env)).any (·.1) || (backToKw pos (keywordEach kws X.env)).any (·.1.isNone)) = false := by rfl) : PD .rep X (cb + c) (.Call (.Name x p) [] kws pos) (dCallK S 0 ks.length perm aNil W) := by
  refine ⟨fun pins s σ H Q I ⟨A, B, F1, ε, P, n, r, bx, hn, t, k⟩ => ?_⟩
  refine wpAny_Call_Name_kw (ld_glob I hg hm ?_ hdb)
  refine PySem.W.callWith_KW0 (h₀ := X.base) I.ok.mod.kin hk hall ?_ hpl
  refine thn (hkw.run pos pins s σ H (fun vs H2 => ∃ F2 es, Gr NoA B cb F1 H F2 H2 ∧ Reps B F2 vs es ∧ es.length = ks.length ∧ S (gK perm [] es) P) I ⟨A, B, F1, ε, _, n, r, bx, by omega, t, fun vs F2 H2 es g q ⟨l1, l2, p⟩ => ⟨F2, es, g, q, l2, p⟩⟩) fun ws s2 ⟨zs, H2, I2, rz, F2, es, g, q, l2, p⟩ => ⟨I2.kIn, ?_⟩
  rw [hks]
  exact run_kn (us := []) (vs := []) F hr hb pass0 I2 .nil rz rfl (q.length.trans l2) ⟨B, F2, _, P, n + cb, g.sub, (r.gr g).bx2, g.box n bx, by omega, gK_reps perm .nil q, p, fun v F3 H3 d g2 q2 p2 => k v F3 H3 d (g.trans g2) q2 p2⟩
/-- f(e, .., k = v, ..) -/
theorem pd_callK {perm : List Nat} {nn : Nat} (F : FnOk X.prog X.w X.K X.mg X.base CX0 k f fd ps (spF c S)) (hr : Room k X.A) (hg : Gl X x) (hm : X.mg x = some (.ref f)) (hk : PySem.W.keepIn X.K (.ref f) = true) (hb : KBn X.K fd ps nn ks (gK perm) (gK perm)) (ha : PAD X ca (e :: es) U) (hkw : PKD X cb kws W)
    (hall : (backToKw pos (keywordEach kws X.env)).all (·.1.isSome) = true := by rfl) (hks : (backToKw pos (keywordEach kws X.env)).filterMap (·.1) = ks := by rfl) (hdb : (x == ("__debug__" : Str)) = false := by decide)
    (he : starEach (e :: es) X.env = (false, eval e X.env) :: starEach es X.env := by rfl) (hpl : ((backTo pos (starEach (e :: es) X.env)).any (·.1) || (backToKw pos (keywordEach kws X.env)).any (·.1.isNone)) = false := by rfl) :
    PD .rep X (ca + (cb + c)) (.Call (.Name x p) (e :: es) kws pos) (dCallK S nn ks.length perm U W) := by
  refine ⟨fun pins s σ H Q I ⟨A, B, F1, ε, P, n, r, bx, hn, t, k⟩ => ?_⟩
  refine wpAny_Call_Name_kw (ld_glob I hg hm ?_ hdb)
  refine PySem.W.callWith_KW (h₀ := X.base) I.ok.mod.kin hk hall (thn (ha.run pos pins s σ H (fun vs H2 => ∃ F2 ds, Gr NoA B ca F1 H F2 H2 ∧ Reps B F2 vs ds ∧ W ε fun es => ds.length = nn ∧ es.length = ks.length ∧ S (gK perm ds es) P) I ⟨A, B, F1, ε, _, n, r, bx, by omega, t, fun vs F2 H2 ds g q t2 => ⟨F2, ds, g, q, t2⟩⟩) fun us s1 ⟨vs, H1, I1, rv, F2, ds, g, q, t2⟩ => ?_) hpl he
  refine thn (hkw.run pos pins s1 σ H1 (fun zs H3 => ∃ F3 es, Gr NoA B cb F2 H1 F3 H3 ∧ Reps B F3 zs es ∧ ds.length = nn ∧ es.length = ks.length ∧ S (gK perm ds es) P) I1 ⟨A, B, F2, ε, _, n + ca, r.gr g, g.box n bx, by omega, t2, fun zs F3 H3 es g2 q2 ⟨l1, l2, p⟩ => ⟨F3, es, g2, q2, l1, l2, p⟩⟩) fun ws s2 ⟨zs, H2, I2, rz, F3, es, g2, q2, l1, l2, p⟩ => ⟨I2.kIn, ?_⟩
  rw [hks]
  have gg := g.trans g2
  exact run_kn (us := us) (vs := vs) F hr hb pass0 I2 rv rz (q.length.trans l1) (q2.length.trans l2) ⟨B, F3, _, P, n + (ca + cb), gg.sub, (r.gr gg).bx2, gg.box n bx, by omega, gK_reps perm (q.mono g2.ex) q2, p, fun v F4 H4 d g3 q3 p3 => k v F4 H4 d ((gg.trans g3).mono (by omega)) q3 p3⟩
/-- o.m(e, ..) -/
def dMeth (C : Addr) (mth : Str) (S : List Dat → (Dat → Prop) → Prop) (T : TD) (U : TAD) : TD := fun ε P => T ε fun d => ∃ xs, d = .obj C xs ∧ xs.lookup mth = none ∧ U ε fun ds => S (d :: ds) P
theorem meth_run : ∀ σ H Q, lift .rep (co + (ca + c)) (dMeth C mth S T U) σ H Q → tMeth C mth (spF c S) [] E0 (lift .rep co T) (liftA ca U) σ H Q := fun σ H Q ⟨A, B, F, ε, P, n, r, bx, hn, t, k⟩ =>
  ⟨A, B, F, ε, _, n, r, bx, by omega, t, fun v F1 H1 d g1 q1 ⟨xs, e1, h1, t1⟩ => by
    subst e1
    have q0 := q1
    cases q1 with
    | @obj q C dx fs xs h2 h3 h4 =>
      refine ⟨q, dx, fs, rfl, g1.sub _ _ h2, lookN h3 h1, ?_⟩
      refine ⟨A, B, F1, ε, _, n + co, r.gr g1, g1.box n bx, by omega, t1, fun vs F2 H2 ds g2 q2 t2 => ?_⟩
      simp only [List.append_nil]
      have gg := g1.trans g2
      exact ⟨B, F2, _ :: ds, P, n + (co + ca), gg.sub, (r.gr gg).bx2, gg.box n bx, by omega, .cons (Rep.mono g2.ex q0) q2, t2, fun v F3 H3 d g3 q3 p => k v F3 H3 d ((gg.trans g3).mono (by omega)) q3 p⟩⟩
theorem pd_meth {pl : Sem Bool} (cl : Cls X.K C) (hm : Meth X.K C mth f) (F : FnOk X.prog X.w X.K X.mg X.base CX0 k f fd ps (spF c S)) (hr : Room k X.A) (hb : Binds X.K fd ps []) (ho : PD .rep X co o T) (ha : PAD X ca (e :: es) U)
    (hst : starEach (e :: es) X.env = (false, eval e X.env) :: starEach es X.env := by rfl) (hpl : (backTo pos (starEach es X.env)).any (·.1) = false := by rfl)
    (ht : eval (.Call (.Attribute o mth apos) (e :: es) [] pos) X.env = (do
      let ov ← eval o X.env
      standAt apos.atName
      let (f, first) ← holding [ov] (getMethod ov mth pl)
      callWith pos f first (backTo pos (starEach (e :: es) X.env)) (backToKw pos (keywordEach [] X.env))) := by rfl) :
    PD .rep X (co + (ca + c)) (.Call (.Attribute o mth apos) (e :: es) [] pos) (dMeth C mth S T U) := pe_weak (pe_meth ho cl hm F hr hb .nil pass0 ha hst hpl ht) meth_run
end

/-! ### objects: __init__'s promise, C(..) -/
def spI (c : Nat) (C : Addr) (S : List Dat → (List (Str × Dat) → Prop) → Prop) : Sp := fun vs H Q _ => ∃ (B : Option Addr) (F : Hp) (p dx : Addr) (vs' : List V) (ds : List Dat) (P : List (Str × Dat) → Prop) (n : Nat),
  vs = .ref p :: vs' ∧ H p = some (.ins C dx []) ∧ F p = none ∧ B ≠ some p ∧ Ex F H ∧ Bx B F H ∧ BoxAt B H n ∧ n + c ≤ CAP ∧ Reps B F vs' ds ∧ S ds P ∧
  ∀ F' H' dx' fs fds, Gr (fun a => a = p) B c F H F' H' → F' p = none → H' p = some (.ins C dx' fs) → fs.map (·.1) = fds.map (·.1) → Reps B F' (fs.map (·.2)) (fds.map (·.2)) → P fds → Q .non H'
section
variable {X : Cx} {k : Nat} {f C : Addr} {fd : FuncData} {ps ks : List Str} {x : Str} {p pos : Pos} {e : Expr} {es : List Expr} {kws : List Keyword} {c ca cb : Nat} {S : List Dat → (List (Str × Dat) → Prop) → Prop} {U W : TAD}
def dMake (C : Addr) (S : List Dat → (List (Str × Dat) → Prop) → Prop) (U : TAD) : TD := fun ε P => U ε fun ds => S ds fun fds => P (.obj C fds)
theorem make_end {A : Addr → Prop} {B : Option Addr} {F1 H1 : Hp} {σ : L2.St} {ε : Ev} {ds : List Dat} {vs : List L2.V} {P : Dat → Prop} {Q : VK} {n : Nat} (r : Rs A B F1 H1 σ ε) (bx : BoxAt B H1 n) (hn : n + c ≤ CAP) (q : Reps B F1 vs ds) (t : S ds fun fds => P (.obj C fds))
    (k : ∀ v F' H' d, Gr NoA B c F1 H1 F' H' → Rep B F' v d → P d → Q v H') : ∀ x dx, H1 x = none → H1 dx = none → dx ≠ x → spI c C S (.ref x :: vs) (upd (upd H1 dx (.own x)) x (.ins C dx [])) (fun v H2 => v = .non ∧ Q (.ref x) H2) E0 := fun x dx hx hdx ne => by
  have g0 : Gr NoA B 0 F1 H1 F1 (upd H1 dx (.own x)) := Gr.alloc0 r.ex hdx
  have hx2 : upd H1 dx (.own x) x = none := by rw [upd_ne ne.symm]; exact hx
  have g1 : Gr NoA B 0 F1 (upd H1 dx (.own x)) F1 (upd (upd H1 dx (.own x)) x (.ins C dx [])) := Gr.alloc0 g0.sub hx2
  have g := g0.trans g1
  have nb : B ≠ some x := fun e => by
    obtain ⟨_, _, o, ho⟩ := r.bx x e
    rw [hx] at ho
    cases ho
  refine ⟨B, F1, x, dx, vs, ds, _, n, rfl, upd_same, r.ex.back hx, nb, g.sub, (r.gr g).bx2, g.box n bx, hn, q, t, fun F' H' dx' fs fds gg hF hH hk hv p => ⟨rfl, ?_⟩⟩
  refine k (.ref x) (upd F' x (.ins C dx' fs)) H' (.obj C fds) ⟨gg.ex.trans (Ex.new hF), fun a u z => ?_, fun a u z => ?_, fun a u z nb' _ => ?_, fun a u z => ?_, fun m hb => ?_⟩ (.obj upd_same hk (hv.mono (Ex.new hF))) p
  · by_cases w : a = x
    · subst w; rw [upd_same] at z; rw [← z]; exact hH
    · rw [upd_ne w] at z; exact gg.sub a u z
  · by_cases w : a = x
    · subst w; exact .inr (.inl hx)
    · rw [upd_ne w] at z
      rcases gg.new a u z with y | y | y
      · exact .inl y
      · exact .inr (.inl (g.free y))
      · exact (w y).elim
  · have w : a ≠ x := fun w => by rw [w, hx] at z; cases z
    exact gg.keep a u (g.keep a u z nb' (fun h => h)) nb' w
  · obtain ⟨o1, h1⟩ := g.there a u z
    exact gg.there a o1 h1
  · exact gg.box m (g.box m hb)
theorem pd_make (M : Mk X.K C f) (F : FnOk X.prog X.w X.K X.mg X.base CX0 k f fd ps (spI c C S)) (hr : Room (k + 1) X.A) (hg : Gl X x) (hm : X.mg x = some (.ref C)) (hb : Binds X.K fd ps []) (ha : PAD X ca (e :: es) U)
    (hdb : (x == ("__debug__" : Str)) = false := by decide) (he : starEach (e :: es) X.env = (false, eval e X.env) :: starEach es X.env := by rfl) (hpl : (backTo pos (starEach es X.env)).any (·.1) = false := by rfl) :
    PD .rep X (ca + c) (.Call (.Name x p) (e :: es) [] pos) (dMake C S U) := pe_weak (pe_make M F hr hg hm hb .nil pass0 ha hdb he hpl) fun σ H Q ⟨A, B, F, ε, P, n, r, bx, hn, t, k⟩ =>
  ⟨A, B, F, ε, _, n, r, bx, by omega, t, fun vs F1 H1 ds g1 q1 t1 => by
    simp only [List.append_nil]
    exact make_end (r.gr g1) (g1.box n bx) (by omega) q1 t1 fun v F2 H2 d g2 q2 p => k v F2 H2 d (g1.trans g2) q2 p⟩
def dMakeK (C : Addr) (S : List Dat → (List (Str × Dat) → Prop) → Prop) (n m : Nat) (perm : List Nat) (U W : TAD) : TD := fun ε P => U ε fun ds => W ε fun es => ds.length = n ∧ es.length = m ∧ S (gK perm ds es) fun fds => P (.obj C fds)
theorem gK_cons {α : Type} (perm : List Nat) (v : α) (vs zs : List α) : gK perm (v :: vs) zs = v :: gK perm vs zs := rfl
theorem pd_makeK0 {perm : List Nat} (M : Mk X.K C f) (F : FnOk X.prog X.w X.K X.mg X.base CX0 k f fd ps (spI c C S)) (hr : Room (k + 1) X.A) (hg : Gl X x) (hm : X.mg x = some (.ref C)) (hb : KBn X.K fd ps 1 ks (gK perm) (gK perm)) (hkw : PKD X cb kws W)
    (hall : (backToKw pos (keywordEach kws X.env)).all (·.1.isSome) = true := by rfl) (hks : (backToKw pos (keywordEach kws X.env)).filterMap (·.1) = ks := by rfl) (hdb : (x == ("__debug__" : Str)) = false := by decide)
    (hpl : ((backTo pos (starEach [] X.env)).any (·.1) || (backToKw pos (keywordEach kws X.env)).any (·.1.isNone)) = false := by rfl) : PD .rep X (cb + c) (.Call (.Name x p) [] kws pos) (dMakeK C S 0 ks.length perm aNil W) :=
  pe_weak (pe_makeK0 M F hr hg hm hb pass0 hkw hall hks hdb hpl) fun σ H Q ⟨A, B, F, ε, P, n, r, bx, hn, t, k⟩ =>
    ⟨A, B, F, ε, _, n, r, bx, by omega, t, fun zs F1 H1 es g1 q1 ⟨l1, l2, t1⟩ => ⟨rfl, q1.length.trans l2, fun x dx hx hdx ne => by
      rw [gK_cons]
      exact make_end (r.gr g1) (g1.box n bx) (by omega) (gK_reps perm .nil q1) t1 (fun v F2 H2 d g2 q2 p => k v F2 H2 d (g1.trans g2) q2 p) x dx hx hdx ne⟩⟩
end
end DL
set_option maxRecDepth 100000
set_option maxHeartbeats 2000000
/-! DL6: rules that the hand layer lacks: enumerate of a tuple, tuple.index of flat items, len(set(tuple)), sorted(tuple), tuple * small. -/
namespace DL
open PySem PySem.Spec PyProof.Rows L2

/-! ### enumerate(tuple) -/
def IteT (K : PySem.W.Frag) (a : Addr) : It :=
  ⟨fun i H => ∃ (xs : List V) (x : V), SqT K H a xs ∧ xs[i]? = some x, fun i H v H' => ∃ T x, v = .ref T ∧ H T = none ∧ H' = upd H T (.tup [.int (i : Nat), x]) ∧ ∀ xs, SqT K H a xs → xs[i]? = some x, fun i H => ∃ xs : List V, SqT K H a xs ∧ xs.length ≤ i⟩
theorem turn_enumT {P : Program} {w : World} {K : PySem.W.Frag} {elts : List Expr} {kk : Nat} {tpos : Pos} (a e it : Addr) (hne : e ≠ it) :
    Turn P w K (.Tuple elts kk tpos) (IteT K a) [e, it] e (fun i h => (∃ old, IsEnum h e it ((i : Nat) : Int) old) ∧ h.IsTupleIter it a i) where
  mem := by simp
  obj := fun i h st b hb => by
    obtain ⟨⟨old, he⟩, o, ho, hc, hd⟩ := st
    have e' : b = e ∨ b = it := by simpa using hb
    rcases e' with z | z
    · rw [z]; exact ⟨_, he, fun v q => nomatch q⟩
    · rw [z]; exact ⟨o, ho, fun v q => by rw [hd] at q; cases q⟩
  keep := fun i h h' st k => let ⟨⟨old, he⟩, hi⟩ := st; ⟨⟨old, k e (by simp) _ he⟩, hi.at fun o q => k it (by simp) o q⟩
  item := by
    intro X hP hw hK hc i pins s σ H E I hf st hg
    subst hP hw hK
    obtain ⟨⟨old, he⟩, hit⟩ := st
    obtain ⟨xs, x, hq, hx⟩ := hg
    obtain ⟨its, rv, p, hz⟩ := I.tuple hq
    obtain ⟨u, hu, ru⟩ := rv.get hx
    have hel : e < s.heap.objs.size := Heap.lt_size he
    have hil : it < s.heap.objs.size := by obtain ⟨_, q, _⟩ := hit; exact Heap.lt_size q
    have hal : a < s.heap.objs.size := p.lt
    have ha1 : a ≠ e := fun z => by
      obtain ⟨o, h1, h2, _⟩ := p
      rw [z] at h1
      rw [show s.heap.get? e = some _ from he] at h1
      cases h1
      injection h2 with h3
      exact absurd h3 (by decide)
    have ha2 : a ≠ it := fun z => by
      obtain ⟨o, h1, h2, _⟩ := p
      obtain ⟨o2, h3, h4, _⟩ := hit
      rw [z, h3] at h1
      cases h1
      rw [h4] at h2
      injection h2 with h5
      exact absurd h5 (by decide)
    have il : i < its.toArray.size := by
      have := (List.getElem?_eq_some_iff.mp hu).1
      simpa using this
    have D := Draws.tuple (prog := X.prog) (w := X.w) (A := X.A.in1) (I.ok.hd hc) it a ha2 its.toArray
    refine wpAny_pyNext_enum_itemC D he ⟨hit, p⟩ il hne (by simp; exact ⟨hne, ha1.symm⟩) fun y h' tk hy ho hst hT hsz hk => ?_
    have ey : y = u := by
      have : its.toArray[i]? = some u := by simpa using hu
      rw [this] at hy
      exact (Option.some.inj hy).symm
    subst ey
    refine ⟨_, rfl, wpAny_letOwnedTupleGo_enum (s := { s with heap := h', toks := tk + 1 }) ho fun h'' he' sb => ?_⟩
    have hT2 : h''.get? s.heap.objs.size = some { cls := .type "tuple", data := .seq #[.int i tk, y] } := (sb.2 _ (Nat.ne_of_gt hel)).trans hT
    have new : ObjOk X.prog X.w (upd H s.heap.objs.size (.tup [.int (i : Nat), x])) h'' s.heap.objs.size (.tup [.int (i : Nat), x]) :=
      ⟨by show 2 ≤ sizeLine; decide, [.int i tk, y], .cons ⟨_, rfl⟩ (.cons ru .nil), ⟨_, hT2, rfl, _, rfl⟩⟩
    have I1 : L2.Inv X pins σ (upd H s.heap.objs.size (.tup [.int (i : Nat), x])) { s with heap := h'', toks := tk + 1 } :=
      I.turnedNew (ch := [e, it]) (fun b ob hb q => (sb.2 b (fun z => hb (by simp [z]))).trans (hk b ob (fun z => hb (by simp [z])) (fun z => hb (by simp [z])) q)) hf (Nat.le_refl _) new
    refine ⟨.ref s.heap.objs.size, _, I1, rfl, ⟨_, x, rfl, I.hok.fresh (Nat.le_refl _), rfl, fun ys hy => by rw [I.tuple_inj hy hq]; exact hx⟩, ⟨⟨y, ?_⟩, hst.1.at fun o q => (sb.2 it (Ne.symm hne)).trans q⟩, fun b hb => ?_⟩
    · have e1 : ((i + 1 : Nat) : Int) = (i : Int) + 1 := by omega
      rw [e1]; exact he'
    · have hb' : b < s.heap.objs.size := by
        have e' : b = e ∨ b = it := by simpa using hb
        rcases e' with z | z
        · rw [z]; exact hel
        · rw [z]; exact hil
      rw [upd_ne (Nat.ne_of_lt hb')]
      exact (hf b hb).1
  done := by
    intro X hP hw hK hc i pins s σ H E I hf st hg
    subst hP hw hK
    obtain ⟨⟨old, he⟩, hit⟩ := st
    obtain ⟨xs, hq, hx⟩ := hg
    obtain ⟨its, rv, p, hz⟩ := I.tuple hq
    obtain ⟨f0, f1, f2, f3, f4, f5⟩ := hf it (by simp)
    have hl := rv.length
    have hT : s.TypeIs (.ref e) "enumerate" := ⟨_, he, rfl⟩
    unfold pyNext
    refine wpAny_bind (wpAny_attempt (wpAny_callSpecial?_slot (name := Str.ofString "__next__") hT F.slot_enumerate_next
      (wpAny_call_entry F.slot_enumerate_next hT F.entry_enumerate_next ?_ (F.args_enumerate_next_1 _))))
    show wpAny _ _ (field (.ref e) 2 >>= _) _ _ _
    refine wpAny_bind (wpAny_field he rfl (x := .ref it) rfl ?_)
    refine wpAny_bind (wpAny_nextOf_tuple_end (I.ok.hd hc) hit p (by simp; omega) fun h' x he' hx' => ?_)
    obtain ⟨o, ho, hcl⟩ := hx'
    refine wpAny_bind (wpAny_isInstance (T := "StopIteration") (b := true) ⟨o, ho, hcl⟩ isSubtype_stop ?_)
    exact wpAny_pure ⟨rfl, I.turned (t' := s.toks) (fun b o hb q => he' b o hb q) f0 f1 f3 f4 f5⟩
  self := fun A i s Q E st h => let ⟨⟨_, he⟩, _⟩ := st; wpAny_pyIter_enum he h
theorem meets_enumerate_newT (l : Addr) (items : Array Value) :
    Meets (Builtin.«enumerate.__new__» ⟨[.type "enumerate", .ref l], []⟩) (fun _ R s => s.heap.IsTuple l items ∧
      R (.ok (.ret (.ref (s.heap.push { cls := .type "tuple_iterator", data := .fields #[.ref l, .int 0 0] }).objs.size)))
        { s with heap := (s.heap.push { cls := .type "tuple_iterator", data := .fields #[.ref l, .int 0 0] }).push { cls := .type "enumerate", data := .fields #[.none, .bool false, .ref s.heap.objs.size, rawInt 0, .none, .none] } }) :=
  .of_wp fun prog w A R s h => by
    obtain ⟨hp, g, d, tk, os⟩ := s; obtain ⟨hl, h⟩ := h
    have hsub := sub_enumerate
    have hL : Heap.IsTuple (Shared.heap ⟨hp, g, d, tk, os⟩) l items := hl
    wp_walk
    refine wpAny_stack_any fun st => wpAny_pure ?_
    split
    · rename_i c _ _ _ _ _
      cases (c == Value.type "enumerate")
      · wp_walk using wpAny_pyIter_tuple hL
        exact ⟨_, rfl, h⟩
      · wp_walk using wpAny_pyIter_tuple hL
        exact ⟨_, rfl, h⟩
    · wp_walk using wpAny_pyIter_tuple hL
      exact ⟨_, rfl, h⟩
theorem call_enumerate_tuple {prog : Program} {w : World} {A : Around} {E : Value → Shared → Prop} {s : Shared} {l : Addr} {items : Array Value} {Q : Value → Shared → Prop} (hL : s.heap.IsTuple l items)
    (h : ∀ h', IsEnum h' (s.heap.objs.size + 1) s.heap.objs.size 0 .none → h'.IsTupleIter s.heap.objs.size l 0 → h'.objs.size = s.heap.objs.size + 2 →
      (∀ b o, s.heap.get? b = some o → h'.get? b = some o) → Q (.ref (s.heap.objs.size + 1)) { s with heap := h' }) :
    wpAny (model prog w) A (call (.type "enumerate") [.ref l]) Q E s := by
  refine callType_new F.called_enumerate (by decide) (F.typeCall_enumerate_1 _) (F.newCall_enumerate_1 _) (fun obj => F.args_object_init_2 obj _) F.entry_enumerate_new
    (meets_enumerate_newT l items) ⟨hL, ?_⟩
  have hz : (s.heap.push { cls := .type "tuple_iterator", data := .fields #[.ref l, .int 0 0] }).objs.size = s.heap.objs.size + 1 := Heap.size_push ..
  show _ ∧ _
  rw [hz]
  have he : IsEnum ((s.heap.push { cls := .type "tuple_iterator", data := .fields #[.ref l, .int 0 0] }).push
      { cls := .type "enumerate", data := .fields #[.none, .bool false, .ref s.heap.objs.size, rawInt 0, .none, .none] }) (s.heap.objs.size + 1) s.heap.objs.size 0 .none := by
    have := Heap.get?_push_size (s.heap.push { cls := .type "tuple_iterator", data := .fields #[.ref l, .int 0 0] })
      (o := { cls := .type "enumerate", data := .fields #[.none, .bool false, .ref s.heap.objs.size, rawInt 0, .none, .none] }) rfl
    rw [hz] at this; exact this
  refine ⟨⟨_, he, rfl⟩, h _ he ⟨_, Heap.get?_push_of_some _ (Heap.get?_push_size _ rfl), rfl, rfl⟩ (by rw [Heap.size_push, hz]) fun b o x => Heap.get?_push_of_some _ (Heap.get?_push_of_some _ x)⟩
/-- enumerate(list or tuple) -/
def iEnumA (K : PySem.W.Frag) (ta : TA) : TI := fun σ H R => ta σ H fun vs H1 => ∃ a xs, vs = [.ref a] ∧ ((SqL K H1 a xs ∧ R (Ite K a) H1) ∨ (SqT K H1 a xs ∧ R (IteT K a) H1))
theorem pi_enumA {X : Cx} {e : Expr} {ta : TA} {p pos tpos : Pos} {elts : List Expr} {kk : Nat} (hg : Gl X "enumerate") (hm : X.mg "enumerate" = none) (ha : PA X [e] ta) (hs : starEach [e] X.env = [(false, eval e X.env)] := by rfl) :
    PI X (.Tuple elts kk tpos) (.Call (.Name "enumerate" p) [e] [] pos) (iEnumA X.K ta) := by
  refine ⟨fun pins s σ H R I h => ?_⟩
  refine Call_ (ld_blt I hg hm boot_enumerate (PyProof.Rows.callWith_type1 (thn (ha.run pos pins s σ H _ I h) fun us s1 ⟨vs, H1, I1, r1, q1⟩ => ?_) hs rfl))
  obtain ⟨a, xs, ex, q⟩ := q1
  subst ex
  cases r1 with
  | cons r rr =>
    cases rr
    cases r
    have fpk : ∀ b ∈ [s1.heap.objs.size + 1, s1.heap.objs.size], FpOk X pins H1 b := fun b hb => by
      have e' : b = s1.heap.objs.size + 1 ∨ b = s1.heap.objs.size := by simpa using hb
      have hle : s1.heap.objs.size ≤ b := by
        rcases e' with z | z
        · rw [z]; exact Nat.le_add_right _ _
        · rw [z]; exact Nat.le_refl _
      exact I1.fpOk hle (I1.hok.fresh hle)
    rcases q with ⟨hq, q⟩ | ⟨hq, q⟩
    · obtain ⟨its, rv, p', hz⟩ := I1.list hq
      refine call_enumerate_list p'.isList fun h' he hit hsz hk => wpAny_pyIter_enum he ?_
      have I2 : L2.Inv X pins σ H1 { s1 with heap := h' } := I1.kept (t' := s1.toks) hk
      exact ⟨s1.heap.objs.size + 1, [s1.heap.objs.size + 1, s1.heap.objs.size], _, _, H1, rfl, I2, turn_enum a (s1.heap.objs.size + 1) s1.heap.objs.size, ⟨⟨.none, he⟩, hit, Nat.succ_ne_self _⟩, fpk, q⟩
    · obtain ⟨its, rv, p', hz⟩ := I1.tuple hq
      refine call_enumerate_tuple p' fun h' he hit hsz hk => wpAny_pyIter_enum he ?_
      have I2 : L2.Inv X pins σ H1 { s1 with heap := h' } := I1.kept (t' := s1.toks) hk
      exact ⟨s1.heap.objs.size + 1, [s1.heap.objs.size + 1, s1.heap.objs.size], _, _, H1, rfl, I2, turn_enumT a (s1.heap.objs.size + 1) s1.heap.objs.size (Nat.succ_ne_self _), ⟨⟨.none, he⟩, hit⟩, fpk, q⟩
theorem walk_enumT {K : PySem.W.Frag} {a : Addr} {xs : List V} : Walk (IteT K a) xs.length (fun H => SqT K H a xs) (YPair (fun i => some (.int (i : Nat))) (fun i => xs[i]?)) := by
  refine ⟨fun i _ hi q => ⟨xs, xs[i], q, by simp [hi]⟩, fun _ q => ⟨xs, q, Nat.le_refl _⟩, fun i H v H' _ q y => ?_⟩
  obtain ⟨T, x, h1, h2, h3, h4⟩ := y
  exact ⟨T, .int (i : Nat), x, h1, h2, h3, rfl, h4 xs q⟩

/-! ### tuple.index of flat items -/
def rIndexT (K : PySem.W.Frag) : V → List V → Hp → VK → Prop := fun x xs H Q => ∃ (a : Addr) (ys : List V) (y : V) (j : Nat) (z : V), x = V.ref a ∧ xs = [y] ∧ SqT K H a ys ∧ flatV y = true ∧ ys.all flatV = true ∧ ys[j]? = some z ∧ eqV z y = true ∧
  (∀ (m : Nat) (z' : V), m < j → ys[m]? = some z' → eqV z' y = false) ∧ Q (.int (j : Nat)) H
theorem mt_tindex {X : Cx} : MtR X "tuple.index" (rIndexT X.K) := by
  intro pins s σ H x xs v us Q I rx rxs h
  obtain ⟨a, ys, y, j, z, rfl, rfl, hs, fy, fys, hz, hzj, hno, q⟩ := h
  cases rx
  cases rxs with
  | cons ry rt =>
    rename_i uy ut
    cases rt
    obtain ⟨its, rv, ⟨⟨cls, dd, data, sl⟩, ho, hc, n, hd⟩, hlen⟩ := I.tuple hs
    simp only at hc hd
    subst hc hd
    obtain ⟨u, hu, ru⟩ := rv.get hz
    obtain ⟨hjl, hje⟩ := List.getElem?_eq_some_iff.mp hu
    have hvl := rv.length
    have hj : j < its.toArray.size := by simpa using hjl
    refine call_meets PySem.F.slot_tuple_index ⟨_, ho, rfl⟩ PySem.F.entry_tuple_index (PySem.F.args_tuple_index_2 _ _)
      (TI.tuple_indexAt a its.toArray n dd sl uy (eqU y) j hj ?_ ?_) ⟨ho, fun u' hu' => mem_eqAt ry fy rv fys u' (by simpa using hu'), ⟨.int (j : Nat), H, I.tok _, ⟨_, rfl⟩, q⟩⟩
    · have e1 : its.toArray[j] = u := by simpa using hje
      rw [e1, eqU_of ru (flat_at fys hz)]
      exact hzj
    · intro m hm hmj
      have hml : m < its.length := by simpa using hm
      have hmy : m < ys.length := by omega
      obtain ⟨w, hw, rw'⟩ := rv.get (i := m) (x := ys[m]) (by simp [hmy])
      have e1 : its.toArray[m] = w := by
        have := (List.getElem?_eq_some_iff.mp hw).2
        simpa using this
      rw [e1, eqU_of rw' (flat_at fys (List.getElem?_eq_getElem hmy))]
      exact hno m _ hmj (List.getElem?_eq_getElem hmy)

/-! ### len(set(tuple of ints)), all different -/
def tLenSetT (K : PySem.W.Frag) (ta : TE) : TE := fun σ H Q => ta σ H fun x H1 => ∃ (l : Addr) (ns : List Int), x = .ref l ∧ SqT K H1 l (ns.map V.int) ∧ ns.Nodup ∧ ns.length ≤ 4000 ∧ Q (.int (ns.length : Nat)) H1
theorem pe_lenSetT {X : Cx} {a : Expr} {ta : TE} {p p2 q pos : Pos} (hg : Gl X "len") (hm : X.mg "len" = none) (hg2 : Gl X "set") (hm2 : X.mg "set" = none) (ha : PE X a ta) (hc : X.calm = true)
    (na : starEach [a] X.env = (false, eval a X.env) :: starEach [] X.env := by rfl) : PE X (.Call (.Name "len" p) [.Call (.Name "set" p2) [a] [] q] [] pos) (tLenSetT X.K ta) := by
  refine ⟨fun pins s σ H Q I h => ?_⟩
  refine Call_ (ld_blt I hg hm boot_len ?_)
  refine PyProof.Rows.callWith_builtin1 (PyProof.Rows.args_cons ?_ rfl) rfl rfl
  refine Call_ (ld_blt I hg2 hm2 boot_set ?_)
  refine PyProof.Rows.callWith_type1 (PyProof.Rows.args_cons (thn (ha.run pins s σ H _ I h) fun v s1 ⟨x, H1, I1, r1, q1⟩ => PyProof.Rows.args_nil ?_) na) na rfl
  obtain ⟨l, ns, rfl, hq, hnd, hl, q1⟩ := q1
  cases r1
  obtain ⟨its, r, pl, hz⟩ := I1.tuple hq
  have hi : IntsAre its.toArray.toList ns := r.ints
  refine call_set_tupI ns (I1.ok.hd hc) (show s1.heap.IsTuple l its.toArray from pl) hi (by unfold scanBound; omega) fun h' tk c R1 hcn k => ?_
  refine PyProof.Rows.args_nil ?_
  obtain ⟨o, es, ep, t, ho, hex, hdt, g, nd, hm2, hb, hf, hn, hr, hl2⟩ := R1
  have hp : (es.toList.map keyOf).Perm ns := (List.perm_ext_iff_of_nodup nd hnd).mpr fun j => by
    rw [← hm2 j, decide_eq_true_eq]
  have hlen : es.size = ns.length := by
    have := hp.length_eq
    rw [List.length_map, Array.length_toList] at this
    exact this
  have I2 : L2.Inv X pins σ H1 { s1 with heap := h', toks := tk } := I1.kept fun b o e => k b o e
  exact call_len_set ho hex hdt hf (by rw [hlen]; omega) ⟨.int ns.length, H1, I2.tok _, ⟨_, by rw [hlen]⟩, q1⟩

/-! ### sorted(tuple of ints) -/
theorem collect_tuple {prog : Program} {w : World} {A : Around} {E : Value → Shared → Prop} {s : Shared} {l : Addr} {vs : List Value} {Q : List Value → Shared → Prop} (hl : s.heap.IsTuple l vs.toArray)
    (h : Q vs { s with heap := (s.heap.push (seqObj "list" #[] 0)).update s.heap.objs.size (Obj.mapSeq (· ++ vs.toArray)) }) (hsz : vs.length ≤ sizeLine) :
    wpAny (model prog w) A (collect (.ref l)) Q E s := by
  obtain ⟨o, ho, hc, n, hd⟩ := id hl
  unfold collect
  refine wpAny_bind (wpAny_runValue (codeAny_builtin entry_proto_collect' ?_))
  show wpAny _ _ (do again (.builtin "list.__iadd__" ⟨[← newList [], .ref l], []⟩)) _ _ s
  refine wpAny_bind (wpAny_newList (wpAny_pure ⟨Code.quiet_builtin _ (by decide +kernel), codeAny_builtin entry_list_iadd' ?_⟩))
  show wpAny _ _ (Builtin.List.listExtendWith (.ref s.heap.objs.size) (.ref l) (.ref s.heap.objs.size)) _ _ { s with heap := s.heap.push (seqObj "list" #[] 0) }
  unfold Builtin.List.listExtendWith
  have ho' : (s.heap.push (seqObj "list" #[] 0)).get? l = some o := Heap.get?_push_of_some _ ho
  refine wpAny_bind (wpAny_typeOf (T := "tuple") ⟨o, ho', hc⟩ ?_)
  have ht : (Value.type "tuple" == Value.type "tuple") = true := by rfl
  rw [if_pos (by rw [ht]; simp)]
  refine wpAny_bind (listItems_at ho' hd ?_)
  refine wpAny_bind (listItems_at (xs := #[]) (n := 0) (Heap.get?_push_size _ rfl) rfl ?_)
  rw [if_neg (by simp)]
  refine wpAny_bind (listUpdate_at (xs := #[]) (n := 0) (Heap.get?_push_size _ rfl) rfl ?_ (Nat.zero_le _) (by show (#[] ++ vs.toArray).size ≤ sizeLine + 1; simp only [Array.size_append, List.size_toArray, List.length_nil]; omega))
  refine wpAny_pure ?_
  show wpAny (model prog w) A (do
      let o ← load s.heap.objs.size
      match o.data with
      | .seq xs _ => pure xs.toList
      | _ => unsupported "internal:collect") Q E { s with heap := (s.heap.push (seqObj "list" #[] 0)).update s.heap.objs.size (Obj.mapSeq (· ++ vs.toArray)) }
  refine wpAny_bind (wpAny_load (get?_update_seq (Heap.get?_push_size _ rfl) _) ?_)
  show wpAny _ _ (pure ((#[] : Array Value) ++ vs.toArray).toList) Q E _
  rw [show ((#[] : Array Value) ++ vs.toArray).toList = vs by simp]
  exact wpAny_pure h
theorem sorted_ordT {prog : Program} {w : World} {A : Around} {E : Value → Shared → Prop} {s : Shared} {l : Addr} {vs : List Value} {ltv : Value → Value → Bool} {Q : Value → Shared → Prop} (O : SrtO.Swo ltv) (hl : s.heap.IsTuple l vs.toArray) (hz : vs.length ≤ sizeLine)
    (hS : 2 ≤ vs.length → ∀ (h₁ : Heap) (a : Addr), h₁.get? a = some (seqObj "list" vs.toArray 0) → (∀ b o, s.heap.get? b = some o → b ≠ a ∧ h₁.get? b = some o) → SrtO.SortableO prog w A.in1.in1 { s with heap := h₁ } a vs ltv)
    (h : ∀ out : List Value, SrtO.Srtd ltv out → SrtO.Stb ltv out vs → Q (.ref (s.heap.objs.size + 1)) { s with heap := sortedAll s.heap vs out.toArray }) :
    wpAny (model prog w) A (call (.builtin "sorted") [.ref l]) Q E s := by
  refine Calls.call_function_entry kind_sorted plain_sorted entry_sorted (args_sorted1 _) ?_
  unfold Builtin.«sorted»
  refine wpAny_bind (m := checkCount "sorted" 1 1 _) (wpAny_pure ?_)
  refine wpAny_bind (collect_tuple hl ?_ hz)
  refine wpAny_bind (wpAny_newList ?_ hz)
  have hsz : ((s.heap.push (seqObj "list" #[] 0)).update s.heap.objs.size (Obj.mapSeq (· ++ vs.toArray))).objs.size = s.heap.objs.size + 1 := by
    rw [Heap.size_update, size_push']
  have hoL : (((s.heap.push (seqObj "list" #[] 0)).update s.heap.objs.size (Obj.mapSeq (· ++ vs.toArray))).push (seqObj "list" vs.toArray 0)).get? (s.heap.objs.size + 1) = some (seqObj "list" vs.toArray 0) := by
    rw [← hsz]; exact Heap.get?_push_size _ rfl
  have keep : ∀ b o, s.heap.get? b = some o → b ≠ s.heap.objs.size + 1 ∧ (((s.heap.push (seqObj "list" #[] 0)).update s.heap.objs.size (Obj.mapSeq (· ++ vs.toArray))).push (seqObj "list" vs.toArray 0)).get? b = some o := fun b o q => by
    have hlt : b < s.heap.objs.size := Heap.lt_size q
    refine ⟨Nat.ne_of_lt (Nat.lt_succ_of_lt hlt), Heap.get?_push_of_some _ ?_⟩
    rw [Heap.get?_update_ne _ _ _ _ (Nat.ne_of_lt hlt)]
    exact Heap.get?_push_of_some _ q
  show wpAny _ _ _ _ _ { s with heap := ((s.heap.push (seqObj "list" #[] 0)).update s.heap.objs.size (Obj.mapSeq (· ++ vs.toArray))).push (seqObj "list" vs.toArray 0) }
  rw [hsz]
  refine wpAny_bind (wpAny_holding (wpAny_call_entry slot_list_sort ⟨_, hoL, rfl⟩ entry_list_sort (SrtO.list_sort_ord O hoL hz (fun h2 => hS h2 _ _ hoL keep) fun out hs hb => ⟨_, rfl, ?_⟩) (args_list_sort _)))
  exact wpAny_pure ⟨_, rfl, h out hs hb⟩
def rSortedTI (K : PySem.W.Frag) : List V → Hp → VK → Prop := fun vs H Q => ∃ (a : Addr) (ns : List Int), vs = [V.ref a] ∧ SqT K H a (ns.map V.int) ∧
  ∀ (ns' : List Int) (p : Addr), ns'.Perm ns → ns'.Pairwise (· ≤ ·) → H p = none → Q (.ref p) (upd H p (.lst (ns'.map V.int)))
theorem cr_sortedTI {X : Cx} : CallR X (.builtin "sorted") (rSortedTI X.K) := by
  intro pins s σ H vs us Q I r h
  obtain ⟨a, ns, rfl, hs, q⟩ := h
  obtain ⟨its, rv, hl, hz⟩ := I.tuple hs
  rw [Vals.ref1 r]
  have hi := rv.ints
  refine sorted_ordT SrtO.swo_int hl (by rw [← rv.length]; exact hz) (fun h2 h₁ a' _ _ => SrtO.ints_sortable hi h2) fun out h1 h2 => ?_
  obtain ⟨k1, k2, k3⟩ := SrtO.ints_out hi h1 h2
  obtain ⟨ep, he'⟩ := PyProof.Rows.sortedAll_at s.heap its out.toArray
  have hlen : ((out.map SrtO.iv).map V.int).length ≤ sizeLine := by
    rw [List.length_map, k2.length_eq]
    rw [List.length_map] at hz
    exact hz
  exact ⟨.ref _, upd H (s.heap.objs.size + 1) (.lst ((out.map SrtO.iv).map V.int)), I.laid (t' := s.toks) (fun _ _ => PyProof.Rows.sortedAll_old) (Nat.le_succ _) ⟨hlen, out, ep, vals_of_ints k1, he'⟩, rfl, q _ _ k2 k3 (I.hok.fresh (Nat.le_succ _))⟩
end DL
set_option maxRecDepth 100000
set_option maxHeartbeats 2000000
/-! DL7: calls of built-ins by data; walks over enumerate and zip; isinstance. -/
namespace DL
open PySem PySem.Spec PyProof.Rows L2

/-! ### argument lists, each value shallow -/
inductive ShL (B : Option Addr) (Hb F H : Hp) : List V → List Dat → Prop
  | nil : ShL B Hb F H [] []
  | cons {v vs d ds} : Res .sh B Hb F H v d → ShL B Hb F H vs ds → ShL B Hb F H (v :: vs) (d :: ds)
def liftH (c : Nat) (T : TAD) : TA := fun σ H Q => ∃ (A : Addr → Prop) (B : Option Addr) (F : Hp) (ε : Ev) (P : List Dat → Prop) (n : Nat),
  Rs A B F H σ ε ∧ BoxAt B H n ∧ n + c ≤ CAP ∧ T ε P ∧ ∀ vs F' H' ds, Gr NoA B c F H F' H' → ShL B H F' H' vs ds → P ds → Q vs H'
def PHD (X : Cx) (c : Nat) (es : List Expr) (T : TAD) : Prop := PA X es (liftH c T)
section
variable {X : Cx} {e a b : Expr} {es rest : List Expr} {m : Md} {c c1 c2 c3 : Nat} {T Ta Tb : TD} {U : TAD} {pos : Pos}
theorem phd_nil : PHD X 0 [] aNil := pa_weak pa_nil fun σ H Q ⟨A, B, F, ε, P, n, r, bx, hn, t, k⟩ => k [] F H [] (Gr.refl r.ex) .nil t
theorem phd_cons (h : PD .sh X c1 e T) (h2 : PHD X c2 es U) (hs : starEach (e :: es) X.env = (false, eval e X.env) :: starEach es X.env := by rfl) : PHD X (c1 + c2) (e :: es) (aCons T U) := pa_weak (pa_cons h h2 hs) fun σ H Q ⟨A, B, F, ε, P, n, r, bx, hn, t, k⟩ =>
  ⟨A, B, F, ε, _, n, r, bx, by omega, t, fun v F1 H1 d g1 q1 t1 => ⟨A, B, F1, ε, _, n + c1, r.gr g1, g1.box n bx, by omega, t1, fun vs F2 H2 ds g2 q2 p => by
    have up : ∀ {vs ds}, ShL B H1 F2 H2 vs ds → ShL B H F2 H2 vs ds := by
      intro vs ds z
      induction z with
      | nil => exact .nil
      | cons r1 _ ih => exact .cons r1 ih
    exact k (v :: vs) F2 H2 (d :: ds) (g1.trans g2) (.cons (q1.gr g2) (up q2)) p⟩⟩

/-- what a built-in's call does, by data -/
def CrD (m : Md) (r : List V → Hp → VK → Prop) (f : List Dat → (Dat → Prop) → Prop) : Prop := ∀ (B : Option Addr) (F H Hb : Hp) (vs : List V) (ds : List Dat) (P : Dat → Prop) (Q : VK), Ex F H → (∀ a, H a = none → Hb a = none) → (∀ b, B = some b → ∃ o, H b = some o) → ShL B Hb F H vs ds → f ds P →
  (∀ v F' H' z, Gr NoA B 0 F H F' H' → Res m B Hb F' H' v z → P z → Q v H') → r vs H Q
def dCr (f : List Dat → (Dat → Prop) → Prop) (U : TAD) : TD := fun ε P => U ε fun ds => f ds P
theorem cr_run {r : List V → Hp → VK → Prop} {f : List Dat → (Dat → Prop) → Prop} (hr : CrD m r f) : ∀ σ H Q, lift m c (dCr f U) σ H Q → tCB r (liftH c U) σ H Q := fun σ H Q ⟨A, B, F, ε, P, n, rs, bx, hn, t, k⟩ =>
  ⟨A, B, F, ε, _, n, rs, bx, hn, t, fun vs F' H' ds g q p => hr B F' H' H vs ds P Q g.sub (fun a h => g.free h) (fun b hb => ((rs.gr g).bx b hb).2.2) q p fun v F2 H2 z g2 q2 p2 => k v F2 H2 z (g.trans g2) q2 p2⟩
variable {x : Str} {p : Pos} {id Ty : String} {r : List V → Hp → VK → Prop} {f : List Dat → (Dat → Prop) → Prop}
theorem pd_callB (hc : CallR X (.builtin id) r) (hr : CrD m r f) (hg : Gl X x) (hm : X.mg x = none) (hv : bootBuiltins x = some (.builtin id)) (ha : PHD X c (e :: es) U) (hn : x ≠ "__name__" := by decide) (hdb : (x == ("__debug__" : Str)) = false := by decide)
    (he : starEach (e :: es) X.env = (false, eval e X.env) :: starEach es X.env := by rfl) (hpl : (backTo pos (starEach es X.env)).any (·.1) = false := by rfl) : PD m X c (.Call (.Name x p) (e :: es) [] pos) (dCr f U) :=
  pe_weak (pe_callB hc hg hm hv ha hn hdb he hpl) (cr_run hr)
theorem pd_callTy (hc : CallR X (.type Ty) r) (hr : CrD m r f) (hg : Gl X x) (hm : X.mg x = none) (hv : bootBuiltins x = some (.type Ty)) (ha : PHD X c (e :: es) U) (hn : x ≠ "__name__" := by decide) (hdb : (x == ("__debug__" : Str)) = false := by decide)
    (he : starEach (e :: es) X.env = (false, eval e X.env) :: starEach es X.env := by rfl) (hpl : (backTo pos (starEach es X.env)).any (·.1) = false := by rfl) : PD m X c (.Call (.Name x p) (e :: es) [] pos) (dCr f U) :=
  pe_weak (pe_callTy hc hg hm hv ha hn hdb he hpl) (cr_run hr)

/-! ### len, int, tuple, list -/
def rLen (K : PySem.W.Frag) : List V → Hp → VK → Prop := fun xs H Q => (∃ p ys, xs = [.ref p] ∧ (SqL K H p ys ∨ SqT K H p ys) ∧ Q (.int ys.length) H) ∨ (∃ a kvs, xs = [V.ref a] ∧ H a = some (.dK kvs) ∧ Q (.int kvs.length) H)
theorem call_lenA : CallR X (.builtin "len") (rLen X.K) := call_len_seq.or call_lenD
def fLen : List Dat → (Dat → Prop) → Prop
  | [.lst xs], P => P (.int xs.length)
  | [.tup xs], P => P (.int xs.length)
  | [.dct xs], P => P (.int xs.length)
  | _, _ => False
theorem cd_len {K : PySem.W.Frag} : CrD .rep (rLen K) fLen := fun B F H Hb vs ds P Q ex hb bx h t k => by
  unfold fLen at t
  split at t
  · cases h with
    | cons h1 h2 =>
      cases h2
      obtain ⟨p, vs, rfl, h3, h4⟩ := sh_lst ex h1
      refine .inl ⟨p, vs, rfl, .inl (SqL.of h3), ?_⟩
      rw [h4.length]
      exact opd_same ex .int t k
  · cases h with
    | cons h1 h2 =>
      cases h2
      obtain ⟨p, vs, rfl, h3, h4⟩ := sh_tup ex h1
      refine .inl ⟨p, vs, rfl, .inr h3.sq, ?_⟩
      rw [h4.length]
      exact opd_same ex .int t k
  · cases h with
    | cons h1 h2 =>
      cases h2
      obtain ⟨p, vs, rfl, h3, h4, h5⟩ := sh_dct ex h1
      refine .inr ⟨p, vs, rfl, h3, ?_⟩
      have := congrArg List.length h4
      rw [List.length_map, List.length_map] at this
      rw [this]
      exact opd_same ex .int t k
  · exact t.elim
def rInt : List V → Hp → VK → Prop := fun xs H Q => (∃ i, xs = [.int i] ∧ Q (.int i) H) ∨ ∃ k, xs = [.bl k] ∧ Q (.int (if k then 1 else 0)) H
def fInt : List Dat → (Dat → Prop) → Prop
  | [.int i], P => P (.int i)
  | [.bl b], P => P (.int (if b then 1 else 0))
  | _, _ => False
theorem cd_int : CrD .rep rInt fInt := fun B F H Hb vs ds P Q ex hb bx h t k => by
  unfold fInt at t
  split at t
  · cases h with
    | cons h1 h2 =>
      cases h2
      cases sh_int h1
      exact .inl ⟨_, rfl, opd_same ex .int t k⟩
  · cases h with
    | cons h1 h2 =>
      cases h2
      cases sh_bl h1
      exact .inr ⟨_, rfl, opd_same ex .int t k⟩
  · exact t.elim
def rTup (K : PySem.W.Frag) : List V → Hp → VK → Prop := fun xs H Q => ∃ p ys, xs = [.ref p] ∧ ((SqL K H p ys ∧ NewT ys H Q) ∨ (SqT K H p ys ∧ Q (.ref p) H))
def fTup : List Dat → (Dat → Prop) → Prop
  | [.lst xs], P => P (.tup xs)
  | [.tup xs], P => P (.tup xs)
  | _, _ => False
theorem sh_rep_tup {B : Option Addr} {Hb F H : Hp} {v : V} {xs : List Dat} (h : Res .sh B Hb F H v (.tup xs)) : Rep B F v (.tup xs) := by
  rcases h with h | ⟨p, hv, w⟩
  · exact h
  · obtain ⟨o, _, c⟩ := w.con; cases o <;> exact c.elim
theorem cd_tup {K : PySem.W.Frag} : CrD .rep (rTup K) fTup := fun B F H Hb vs ds P Q ex hb bx h t k => by
  unfold fTup at t
  split at t
  · cases h with
    | cons h1 h2 =>
      cases h2
      obtain ⟨p, vs, rfl, h3, h4⟩ := sh_lst ex h1
      exact ⟨p, vs, rfl, .inl ⟨SqL.of h3, opd_tup ex h4 t k⟩⟩
  · cases h with
    | cons h1 h2 =>
      cases h2
      have h5 := sh_rep_tup h1
      obtain ⟨p, vs, rfl, h3, h4⟩ := sh_tup ex h1
      exact ⟨p, vs, rfl, .inr ⟨h3.sq, opd_same ex h5 t k⟩⟩
  · exact t.elim
def rLst (K : PySem.W.Frag) : List V → Hp → VK → Prop := fun xs H Q => ∃ p ys, xs = [.ref p] ∧ (SqL K H p ys ∨ SqT K H p ys) ∧ ∀ l, H l = none → Q (.ref l) (upd H l (.lst ys))
def fLst : List Dat → (Dat → Prop) → Prop
  | [.lst xs], P => P (.lst xs)
  | [.tup xs], P => P (.lst xs)
  | _, _ => False
theorem cd_lst {K : PySem.W.Frag} : CrD .fr (rLst K) fLst := fun B F H Hb vs ds P Q ex hb bx h t k => by
  unfold fLst at t
  split at t
  · cases h with
    | cons h1 h2 =>
      cases h2
      obtain ⟨p, vs, rfl, h3, h4⟩ := sh_lst ex h1
      exact ⟨p, vs, rfl, .inl (SqL.of h3), opd_own ex hb bx h4 t k⟩
  · cases h with
    | cons h1 h2 =>
      cases h2
      obtain ⟨p, vs, rfl, h3, h4⟩ := sh_tup ex h1
      exact ⟨p, vs, rfl, .inr h3.sq, opd_own ex hb bx h4 t k⟩
  · exact t.elim

/-! ### max, min, sum, sorted, all, any -/
def intsD : List Dat → Option (List Int)
  | [] => some []
  | .int i :: r => (intsD r).map (i :: ·)
  | _ :: _ => none
theorem ints_eq : ∀ {ds : List Dat} {ns : List Int}, intsD ds = some ns → ds = ns.map Dat.int
  | [], ns, h => by simp [intsD] at h; subst h; rfl
  | d :: ds, ns, h => by
    cases d <;> simp only [intsD] at h <;> try cases h
    rename_i i
    cases e : intsD ds with
    | none => rw [e] at h; cases h
    | some ms =>
      rw [e] at h
      cases h
      rw [ints_eq e, List.map_cons]
theorem ints_map : ∀ ns : List Int, intsD (ns.map Dat.int) = some ns
  | [] => rfl
  | n :: ns => by rw [List.map_cons, intsD, ints_map ns] <;> rfl
def blsD : List Dat → Option (List Bool)
  | [] => some []
  | .bl i :: r => (blsD r).map (i :: ·)
  | _ :: _ => none
theorem bls_eq : ∀ {ds : List Dat} {ns : List Bool}, blsD ds = some ns → ds = ns.map Dat.bl
  | [], ns, h => by simp [blsD] at h; subst h; rfl
  | d :: ds, ns, h => by
    cases d <;> simp only [blsD] at h <;> try cases h
    rename_i i
    cases e : blsD ds with
    | none => rw [e] at h; cases h
    | some ms =>
      rw [e] at h
      cases h
      rw [bls_eq e, List.map_cons]
theorem bls_map : ∀ ns : List Bool, blsD (ns.map Dat.bl) = some ns
  | [] => rfl
  | n :: ns => by rw [List.map_cons, blsD, bls_map ns] <;> rfl
theorem sh_ints {B : Option Addr} {Hb F H : Hp} {v : V} {xs : List Dat} {ns : List Int} (ex : Ex F H) (h : Res .sh B Hb F H v (.lst xs)) (e : intsD xs = some ns) : ∃ p, v = .ref p ∧ H p = some (.lst (ns.map V.int)) := by
  obtain ⟨p, vs, h1, h2, h3⟩ := sh_lst ex h
  rw [ints_eq e] at h3
  rw [h3.ints] at h2
  exact ⟨p, h1, h2⟩
theorem sh_tints {B : Option Addr} {Hb F H : Hp} {v : V} {xs : List Dat} {ns : List Int} (ex : Ex F H) (h : Res .sh B Hb F H v (.tup xs)) (e : intsD xs = some ns) : ∃ p, v = .ref p ∧ KT H p (ns.map V.int) := by
  obtain ⟨p, vs, h1, h2, h3⟩ := sh_tup ex h
  rw [ints_eq e] at h3
  rw [h3.ints] at h2
  exact ⟨p, h1, h2⟩
theorem sh_bls {B : Option Addr} {Hb F H : Hp} {v : V} {xs : List Dat} {ns : List Bool} (ex : Ex F H) (h : Res .sh B Hb F H v (.lst xs)) (e : blsD xs = some ns) : ∃ p, v = .ref p ∧ H p = some (.lst (ns.map V.bl)) := by
  obtain ⟨p, vs, h1, h2, h3⟩ := sh_lst ex h
  rw [bls_eq e] at h3
  rw [h3.bls] at h2
  exact ⟨p, h1, h2⟩
def rMaxA (K : PySem.W.Frag) : List V → Hp → VK → Prop := fun xs H Q => rMax K xs H Q ∨ ∃ i j, xs = [.int i, .int j] ∧ Q (.int (if j > i then j else i)) H
theorem call_maxA (hc : X.calm = true) : CallR X (.builtin "max") (rMaxA X.K) := (cr_max hc).or (call_max2 hc)
def fMax : List Dat → (Dat → Prop) → Prop
  | [.lst xs], P => ∃ ns, intsD xs = some ns ∧ 0 < ns.length ∧ ∀ m, m ∈ ns → (∀ y, y ∈ ns → y ≤ m) → P (.int m)
  | [.int i, .int j], P => P (.int (if j > i then j else i))
  | _, _ => False
theorem cd_max {K : PySem.W.Frag} : CrD .rep (rMaxA K) fMax := fun B F H Hb vs ds P Q ex hb bx h t k => by
  unfold fMax at t
  split at t
  · obtain ⟨ns, h1, h2, h3⟩ := t
    cases h with
    | cons h4 h5 =>
      cases h5
      obtain ⟨p, rfl, h6⟩ := sh_ints ex h4 h1
      exact .inl ⟨p, ns, rfl, SqL.of h6, h2, fun m hm hy => opd_same ex .int (h3 m hm hy) k⟩
  · cases h with
    | cons h1 h2 =>
      cases h2 with
      | cons h3 h4 =>
        cases h4
        cases sh_int h1
        cases sh_int h3
        exact .inr ⟨_, _, rfl, opd_same ex .int t k⟩
  · exact t.elim
def rMinA (K : PySem.W.Frag) : List V → Hp → VK → Prop := fun xs H Q => rMin K xs H Q ∨ ∃ i j, xs = [.int i, .int j] ∧ Q (.int (if j < i then j else i)) H
theorem call_minA (hc : X.calm = true) : CallR X (.builtin "min") (rMinA X.K) := (cr_min hc).or (call_min2 hc)
def fMin : List Dat → (Dat → Prop) → Prop
  | [.lst xs], P => ∃ ns, intsD xs = some ns ∧ 0 < ns.length ∧ ∀ m, m ∈ ns → (∀ y, y ∈ ns → m ≤ y) → P (.int m)
  | [.int i, .int j], P => P (.int (if j < i then j else i))
  | _, _ => False
theorem cd_min {K : PySem.W.Frag} : CrD .rep (rMinA K) fMin := fun B F H Hb vs ds P Q ex hb bx h t k => by
  unfold fMin at t
  split at t
  · obtain ⟨ns, h1, h2, h3⟩ := t
    cases h with
    | cons h4 h5 =>
      cases h5
      obtain ⟨p, rfl, h6⟩ := sh_ints ex h4 h1
      exact .inl ⟨p, ns, rfl, SqL.of h6, h2, fun m hm hy => opd_same ex .int (h3 m hm hy) k⟩
  · cases h with
    | cons h1 h2 =>
      cases h2 with
      | cons h3 h4 =>
        cases h4
        cases sh_int h1
        cases sh_int h3
        exact .inr ⟨_, _, rfl, opd_same ex .int t k⟩
  · exact t.elim
def fSum : List Dat → (Dat → Prop) → Prop
  | [.lst xs], P => ∃ ns, intsD xs = some ns ∧ P (.int ns.sum)
  | _, _ => False
theorem cd_sum {K : PySem.W.Frag} : CrD .rep (rSum K) fSum := fun B F H Hb vs ds P Q ex hb bx h t k => by
  unfold fSum at t
  split at t
  · obtain ⟨ns, h1, h2⟩ := t
    cases h with
    | cons h4 h5 =>
      cases h5
      obtain ⟨p, rfl, h6⟩ := sh_ints ex h4 h1
      exact ⟨p, ns, rfl, SqL.of h6, opd_same ex .int h2 k⟩
  · exact t.elim
def rSortedA (K : PySem.W.Frag) : List V → Hp → VK → Prop := fun xs H Q => rSortedI K xs H Q ∨ rSortedTI K xs H Q
theorem call_sortedA : CallR X (.builtin "sorted") (rSortedA X.K) := cr_sortedI.or cr_sortedTI
def fSorted : List Dat → (Dat → Prop) → Prop
  | [.lst xs], P => ∃ ns, intsD xs = some ns ∧ ∀ ms : List Int, ms.Perm ns → ms.Pairwise (· ≤ ·) → P (.lst (ms.map Dat.int))
  | [.tup xs], P => ∃ ns, intsD xs = some ns ∧ ∀ ms : List Int, ms.Perm ns → ms.Pairwise (· ≤ ·) → P (.lst (ms.map Dat.int))
  | _, _ => False
theorem cd_sorted {K : PySem.W.Frag} : CrD .fr (rSortedA K) fSorted := fun B F H Hb vs ds P Q ex hb bx h t k => by
  unfold fSorted at t
  split at t
  · obtain ⟨ns, h1, h2⟩ := t
    cases h with
    | cons h4 h5 =>
      cases h5
      obtain ⟨p, rfl, h6⟩ := sh_ints ex h4 h1
      exact .inl ⟨p, ns, rfl, SqL.of h6, fun ms q h7 h8 => opd_own ex hb bx (Reps.of_ints ms) (h2 ms h7 h8) k q⟩
  · obtain ⟨ns, h1, h2⟩ := t
    cases h with
    | cons h4 h5 =>
      cases h5
      obtain ⟨p, rfl, h6⟩ := sh_tints ex h4 h1
      exact .inr ⟨p, ns, rfl, h6.sq, fun ms q h7 h8 => opd_own ex hb bx (Reps.of_ints ms) (h2 ms h7 h8) k q⟩
  · exact t.elim
def fAll : List Dat → (Dat → Prop) → Prop
  | [.lst xs], P => ∃ bs, blsD xs = some bs ∧ P (.bl (bs.all _root_.id))
  | _, _ => False
theorem cd_all {K : PySem.W.Frag} : CrD .rep (rAll K) fAll := fun B F H Hb vs ds P Q ex hb bx h t k => by
  unfold fAll at t
  split at t
  · obtain ⟨ns, h1, h2⟩ := t
    cases h with
    | cons h4 h5 =>
      cases h5
      obtain ⟨p, rfl, h6⟩ := sh_bls ex h4 h1
      exact ⟨p, ns, rfl, SqL.of h6, opd_same ex .bl h2 k⟩
  · exact t.elim
def fAny : List Dat → (Dat → Prop) → Prop
  | [.lst xs], P => ∃ bs, blsD xs = some bs ∧ P (.bl (bs.any _root_.id))
  | _, _ => False
theorem cd_any {K : PySem.W.Frag} : CrD .rep (rAny K) fAny := fun B F H Hb vs ds P Q ex hb bx h t k => by
  unfold fAny at t
  split at t
  · obtain ⟨ns, h1, h2⟩ := t
    cases h with
    | cons h4 h5 =>
      cases h5
      obtain ⟨p, rfl, h6⟩ := sh_bls ex h4 h1
      exact ⟨p, ns, rfl, SqL.of h6, opd_same ex .bl h2 k⟩
  · exact t.elim

/-! ### isinstance -/
def tyN : Dat → Option String
  | .non => some "NoneType"
  | .bl _ => some "bool"
  | .int _ => some "int"
  | .str _ => some "str"
  | .tup _ => some "tuple"
  | .lst _ => some "list"
  | .dct _ => some "dict"
  | .dtt _ => some "dict"
  | _ => none
def isT (a n : String) : Bool := a == n || (a == "bool" && n == "int")
def tyNames : List String := ["bool", "int", "str", "tuple", "list", "dict"]
def tyNames' : List String := "NoneType" :: tyNames
theorem kit_all : (tyNames'.all fun a => tyNames.all fun n => kitB a n == some (isT a n)) = true := by decide +kernel
theorem tyN_mem {d : Dat} {a : String} (h : tyN d = some a) : a ∈ tyNames' := by
  cases d <;> simp only [tyN, Option.some.injEq] at h <;> first | (cases h; done) | (subst h; decide)
theorem kit_at {K : PySem.W.Frag} {d : Dat} {a n : String} (h : tyN d = some a) (hn : n ∈ tyNames) : PySem.W.kitOne K (.type a) (.type n) = some (isT a n) :=
  kit_ty (eq_of_beq (List.all_eq_true.mp (List.all_eq_true.mp kit_all a (tyN_mem h)) n hn))
theorem tyx_of {K : PySem.W.Frag} {B : Option Addr} {Hb F H : Hp} {v : V} {d : Dat} {a : String} (ex : Ex F H) (h : Res .sh B Hb F H v d) (ha : tyN d = some a) : TyX K H v (.type a) := by
  cases d <;> simp only [tyN, Option.some.injEq] at ha <;> first | (cases ha; done) | skip
  · subst ha; cases sh_non h; exact .base .non
  · subst ha; cases sh_bl h; exact .base (.bl _)
  · subst ha; cases sh_int h; exact .base (.int _)
  · subst ha; cases sh_str h; exact .base (.str _)
  · subst ha
    obtain ⟨p, vs, rfl, ⟨o, h3, _⟩, h4⟩ := sh_tup ex h
    exact .fTuple h3
  · subst ha
    obtain ⟨p, vs, rfl, h3, h4⟩ := sh_lst ex h
    exact .base (.lst h3)
  · subst ha
    obtain ⟨p, vs, rfl, h3, h4, h5⟩ := sh_dct ex h
    exact .base (.dK h3)
  · subst ha
    obtain ⟨p, vs, rfl, h3, h4, h5⟩ := sh_dtt ex h
    exact .base (.dT h3)
/-- isinstance(x, (c1, c2, ..)), the tuple known -/
def rIsiTF (K : PySem.W.Frag) : List V → Hp → VK → Prop := fun xs H Q => ∃ (x : V) (tp : Addr) (cs : List V) (t : Value) (us : List Value) (b : Bool), xs = [x, .ref tp] ∧ KT H tp cs ∧ Paired ClsV cs us ∧ TyX K H x t ∧ PySem.W.kitAny K t us = some b ∧ Q (.bl b) H
theorem call_isiTF : CallR X (.builtin "isinstance") (rIsiTF X.K) := by
  intro pins s σ H xs us Q I r h
  obtain ⟨x, tp, cs, t, ws, b, rfl, ⟨o', hT, _⟩, k, ty, e, q⟩ := h
  obtain ⟨u1, u2, rfl, r1, r2⟩ := vals2 r
  cases (show u2 = Value.ref tp from r2)
  obtain ⟨P, Z, p, hx⟩ := kit_of I r1 ty
  obtain ⟨_, _, its, rv, o, h1, h2, n, h3⟩ := (show ObjOk X.prog X.w H s.heap tp (.frz o' (.tup cs)) from I.hok tp _ hT)
  have e3 := ClsV.all k rv
  subst e3
  obtain ⟨oc, od, dt, sl⟩ := o
  simp only at h2 h3
  subst h2 h3
  exact PySem.W.kia_tup Z I.kIn p h1 e hx fun tk => ⟨.bl b, H, I.tok tk, rfl, q⟩
def rIsO (C : Addr) : List V → Hp → VK → Prop := fun xs H Q => ∃ a dx fs, xs = [.ref a, .ref C] ∧ H a = some (.ins C dx fs) ∧ Q (.bl true) H
def fIsi : List Dat → (Dat → Prop) → Prop
  | [d, .ty n], P => ∃ a, tyN d = some a ∧ n ∈ tyNames ∧ P (.bl (isT a n))
  | _, _ => False
def fIsi2 : List Dat → (Dat → Prop) → Prop
  | [d, .tup [.ty n, .ty m]], P => ∃ a, tyN d = some a ∧ n ∈ tyNames ∧ m ∈ tyNames ∧ P (.bl (isT a n || isT a m))
  | _, _ => False
def fIsO (C : Addr) : List Dat → (Dat → Prop) → Prop
  | [.obj C' fs, .cls C2], P => C' = C ∧ C2 = C ∧ P (.bl true)
  | _, _ => False
theorem sh_ty {B : Option Addr} {Hb F H : Hp} {v : V} {n : String} (h : Res .sh B Hb F H v (.ty n)) : v = .ty n := by
  rcases h with h | ⟨p, _, w⟩
  · cases h; rfl
  · obtain ⟨o, _, c⟩ := w.con; cases o <;> exact c.elim
theorem sh_cls {B : Option Addr} {Hb F H : Hp} {v : V} {C : Addr} (h : Res .sh B Hb F H v (.cls C)) : v = .ref C := by
  rcases h with h | ⟨p, _, w⟩
  · cases h; rfl
  · obtain ⟨o, _, c⟩ := w.con; cases o <;> exact c.elim
theorem cd_isi {K : PySem.W.Frag} : CrD .rep (rIsi K) fIsi := fun B F H Hb vs ds P Q ex hb bx h t k => by
  unfold fIsi at t
  split at t
  · obtain ⟨a, h1, h2, h3⟩ := t
    cases h with
    | cons h4 h5 =>
      cases h5 with
      | cons h6 h7 =>
        cases h7
        cases sh_ty h6
        exact ⟨_, _, _, _, _, rfl, .ty _, tyx_of ex h4 h1, kit_at h1 h2, opd_same ex .bl h3 k⟩
  · exact t.elim
theorem cd_isi2 {K : PySem.W.Frag} : CrD .rep (rIsiTF K) fIsi2 := fun B F H Hb vs ds P Q ex hb bx h t k => by
  unfold fIsi2 at t
  split at t
  · obtain ⟨a, h1, h2, h2', h3⟩ := t
    cases h with
    | cons h4 h5 =>
      cases h5 with
      | cons h6 h7 =>
        cases h7
        obtain ⟨p, vs, rfl, h8, h9⟩ := sh_tup ex h6
        cases h9 with
        | cons r1 r2 =>
          cases r2 with
          | cons r3 r4 =>
            cases r4
            cases r1
            cases r3
            rename_i n m _
            have e1 : PySem.W.kitAny K (.type a) [.type n, .type m] = some (isT a n || isT a m) := by
              cases e0 : isT a n with
              | true => exact kitAny_cons (b := true) (by rw [kit_at h1 h2, e0]) (fun z => by cases z) fun _ => rfl
              | false =>
                refine kitAny_cons (b := false) (by rw [kit_at h1 h2, e0]) (fun _ => ?_) fun z => by cases z
                rw [Bool.false_or]
                cases e5 : isT a m with
                | true => exact kitAny_cons (b := true) (by rw [kit_at h1 h2', e5]) (fun z => by cases z) fun _ => rfl
                | false => exact kitAny_cons (b := false) (by rw [kit_at h1 h2', e5]) (fun _ => kitAny_nil) fun z => by cases z
            exact ⟨_, _, _, _, _, _, rfl, h8, .cons (.ty _) (.cons (.ty _) .nil), tyx_of ex h4 h1, e1, opd_same ex .bl h3 k⟩
  · exact t.elim
theorem cd_isO {C : Addr} : CrD .rep (rIsO C) (fIsO C) := fun B F H Hb vs ds P Q ex hb bx h t k => by
  unfold fIsO at t
  split at t
  · obtain ⟨h1, h2, h3⟩ := t
    subst h1 h2
    cases h with
    | cons h4 h5 =>
      cases h5 with
      | cons h6 h7 =>
        cases h7
        cases sh_cls h6
        rcases h4 with h4 | ⟨p, hv, w⟩
        · cases h4 with
          | obj h8 h9 h10 => exact ⟨_, _, _, rfl, ex _ _ h8, opd_same ex .bl h3 k⟩
        · obtain ⟨o, ho, c⟩ := w.con
          cases o with
          | ins C dx fs =>
            obtain ⟨rfl, h9, h10⟩ := c
            subst hv
            exact ⟨_, _, _, rfl, ho, opd_same ex .bl h3 k⟩
          | _ => exact c.elim
  · exact t.elim
/-- a type's name, a class's name, as values -/
theorem pd_ty {n : String} (h : PE X e (tC (.ty n))) : PD .rep X 0 e (dC (.ty n)) := pd_c h fun _ _ => .ty
theorem pd_cls {C : Addr} (h : PE X e (tC (.ref C))) : PD .rep X 0 e (dC (.cls C)) := pd_c h fun _ _ => .cls
end
end DL
set_option maxRecDepth 100000
set_option maxHeartbeats 2000000
/-! DL8: walks over enumerate and zip; list(range); methods; dicts; statements that change an owned object. -/
namespace DL
open PySem PySem.Spec PyProof.Rows L2 RZ

/-! ### enumerate, zip -/
def enumD (ds : List Dat) : List Dat := ds.mapIdx fun i d => .tup [.int (i : Nat), d]
theorem enumD_len (ds : List Dat) : (enumD ds).length = ds.length := by simp [enumD]
theorem enumD_get (ds : List Dat) (i : Nat) : (enumD ds)[i]? = ds[i]?.map fun d => .tup [.int (i : Nat), d] := by simp [enumD, List.getElem?_mapIdx]
def zipD (xs ys : List Dat) : List Dat := List.zipWith (fun a b => .tup [a, b]) xs ys
theorem zipD_len (xs ys : List Dat) : (zipD xs ys).length = min xs.length ys.length := by simp [zipD]
theorem zipD_get {xs ys : List Dat} {i : Nat} {x y : Dat} (h1 : xs[i]? = some x) (h2 : ys[i]? = some y) : (zipD xs ys)[i]? = some (.tup [x, y]) := by
  simp [zipD, List.getElem?_zipWith, h1, h2]
section
variable {X : Cx} {tg iter e a b t0 elt o : Expr} {es elts : List Expr} {pos tpos p p2 pp : Pos} {c c1 c2 c3 kk : Nat} {T Ta Tb Te : TD} {U : TAD} {m : Md}
def iEn (U : TAD) : TID := fun ε P => U ε fun ds => ∃ d xs, ds = [d] ∧ (d = .lst xs ∨ d = .tup xs) ∧ P (enumD xs)
theorem yd_pair {B : Option Addr} {F : Hp} {vs : List V} {ds : List Dat} (r : Reps B F vs ds) {i : Nat} {H H' : Hp} {x : V} (y : YPair (fun i => some (.int (i : Nat))) (fun i => vs[i]?) i H x H') : YD true B F (enumD ds) i H x H' := by
  obtain ⟨T, a, b, h1, h2, h3, h4, h5⟩ := y
  cases h4
  obtain ⟨d, hd, rd⟩ := r.getV h5
  exact ⟨.tup [.int i, d], by rw [enumD_get, hd]; rfl, .inr ⟨rfl, T, _, _, h1, h2, h3, rfl, .cons .int (.cons rd .nil)⟩⟩
theorem pid_enum (hg : Gl X "enumerate") (hm : X.mg "enumerate" = none) (ha : PAD X c [e] U) (hs : starEach [e] X.env = [(false, eval e X.env)] := by rfl) : PID true X c (.Tuple elts kk tpos) (.Call (.Name "enumerate" p) [e] [] pos) (iEn U) :=
  pi_weak (pi_enumA hg hm ha (hs := hs)) fun σ H R ⟨A, B, F, ε, P, n, r, bx, hn, t, k⟩ =>
    ⟨A, B, F, ε, _, n, r, bx, hn, t, fun vs F' H' ds g q ⟨d, xs, e1, e2, p⟩ => by
      subst e1
      cases q with
      | cons q1 q2 =>
        cases q2
        rcases e2 with rfl | rfl
        · cases q1 with
          | @lst a vs xs h1 h2 =>
            refine ⟨a, vs, rfl, .inl ⟨SqL.of (g.sub _ _ h1), k _ F' H' _ g ?_ p⟩⟩
            unfold WalkD
            rw [enumD_len, ← h2.length]
            exact walk_enum.mono (fun H'' e => SqL.of (e _ _ h1)) fun i H'' x H3 hi hg y => yd_pair h2 y
        · cases q1 with
          | @tup a vs xs o h1 hd h2 =>
            refine ⟨a, vs, rfl, .inr ⟨KT.sq ⟨_, g.sub _ _ h1, hd⟩, k _ F' H' _ g ?_ p⟩⟩
            unfold WalkD
            rw [enumD_len, ← h2.length]
            exact walk_enumT.mono (fun H'' e => KT.sq ⟨_, e _ _ h1, hd⟩) fun i H'' x H3 hi hg y => yd_pair h2 y⟩
theorem walk_zipT {K : PySem.W.Frag} {a b : Addr} {xs ys : List V} {n : Nat} (hn : n = min xs.length ys.length) : Walk (ItzT K a b) n (fun H => SqT K H a xs ∧ SqT K H b ys) (YPair (fun i => xs[i]?) (fun i => ys[i]?)) := by
  subst hn
  refine ⟨fun i _ hi q => ?_, fun _ q => ⟨xs, ys, q.1, q.2, by omega⟩, fun i H v H' _ q y => ?_⟩
  · have h1 : i < xs.length := by omega
    have h2 : i < ys.length := by omega
    exact ⟨xs, ys, xs[i], ys[i], q.1, q.2, by simp [h1], by simp [h2]⟩
  · obtain ⟨T, x, z, h1, h2, h3, h4, h5⟩ := y
    exact ⟨T, x, z, h1, h2, h3, h4 xs q.1, h5 ys q.2⟩
def iZp (U : TAD) : TID := fun ε P => U ε fun ds => ∃ d d' xs ys, ds = [d, d'] ∧ ((d = .lst xs ∧ d' = .lst ys) ∨ (d = .tup xs ∧ d' = .tup ys)) ∧ P (zipD xs ys)
theorem yd_zip {B : Option Addr} {F : Hp} {vs ws : List V} {ds es : List Dat} (r : Reps B F vs ds) (r' : Reps B F ws es) {i : Nat} {H H' : Hp} {x : V} (y : YPair (fun i => vs[i]?) (fun i => ws[i]?) i H x H') : YD true B F (zipD ds es) i H x H' := by
  obtain ⟨T, a, b, h1, h2, h3, h4, h5⟩ := y
  obtain ⟨d, hd, rd⟩ := r.getV h4
  obtain ⟨d', hd', rd'⟩ := r'.getV h5
  exact ⟨.tup [d, d'], zipD_get hd hd', .inr ⟨rfl, T, _, _, h1, h2, h3, rfl, .cons rd (.cons rd' .nil)⟩⟩
theorem pid_zip (hg : Gl X "zip") (hm : X.mg "zip" = none) (ha : PAD X c [a, b] U) (hs : starEach [a, b] X.env = (false, eval a X.env) :: starEach [b] X.env := by rfl) (hpl : (backTo pos (starEach [b] X.env)).any (·.1) = false := by rfl) :
    PID true X c (.Tuple elts kk tpos) (.Call (.Name "zip" p) [a, b] [] pos) (iZp U) :=
  pi_weak (pi_zipA hg hm ha (hs := hs) (hpl := hpl)) fun σ H R ⟨A, B, F, ε, P, n, r, bx, hn, t, k⟩ =>
    ⟨A, B, F, ε, _, n, r, bx, hn, t, fun vs F' H' ds g q ⟨d, d', xs, ys, e1, e2, p⟩ => by
      subst e1
      cases q with
      | cons q1 q2 =>
        cases q2 with
        | cons q2 q3 =>
          cases q3
          rcases e2 with ⟨rfl, rfl⟩ | ⟨rfl, rfl⟩
          · cases q1 with
            | @lst a vs xs h1 h2 =>
              cases q2 with
              | @lst b ws ys h3 h4 =>
                refine ⟨a, b, vs, ws, rfl, .inl ⟨SqL.of (g.sub _ _ h1), SqL.of (g.sub _ _ h3), k _ F' H' _ g ?_ p⟩⟩
                unfold WalkD
                rw [zipD_len, ← h2.length, ← h4.length]
                exact (walk_zip rfl).mono (fun H'' e => ⟨SqL.of (e _ _ h1), SqL.of (e _ _ h3)⟩) fun i H'' x H3 hi hg y => yd_zip h2 h4 y
          · cases q1 with
            | @tup a vs xs o h1 hd h2 =>
              cases q2 with
              | @tup b ws ys o' h3 hd' h4 =>
                refine ⟨a, b, vs, ws, rfl, .inr ⟨KT.sq ⟨_, g.sub _ _ h1, hd⟩, KT.sq ⟨_, g.sub _ _ h3, hd'⟩, k _ F' H' _ g ?_ p⟩⟩
                unfold WalkD
                rw [zipD_len, ← h2.length, ← h4.length]
                exact (walk_zipT rfl).mono (fun H'' e => ⟨KT.sq ⟨_, e _ _ h1, hd⟩, KT.sq ⟨_, e _ _ h3, hd'⟩⟩) fun i H'' x H3 hi hg y => yd_zip h2 h4 y⟩

/-! ### list(range(n)), list(range(a, b)) -/
theorem rg_reps {B : Option Addr} {F : Hp} {lo : Int} {n : Nat} : Reps B F ((List.range n).map fun i => V.int (lo + (i : Nat))) (rngD lo n) := by
  unfold rngD
  generalize List.range n = l
  induction l with
  | nil => exact .nil
  | cons x l ih => exact .cons .int ih
def dLr1 (T : TD) : TD := fun ε P => T ε fun d => ∃ j : Int, d = .int j ∧ j ≤ 10000 ∧ -10000 ≤ j ∧ P (.lst (rngD 0 j.toNat))
def dLr2 (Ta Tb : TD) : TD := fun ε P => Ta ε fun d => Tb ε fun e => ∃ i j : Int, d = .int i ∧ e = .int j ∧ i ≤ 10000 ∧ -10000 ≤ i ∧ j ≤ 10000 ∧ -10000 ≤ j ∧ P (.lst (rngD i (j - i).toNat))
theorem res_own {A : Addr → Prop} {B : Option Addr} {F F' H H' : Hp} {σ : L2.St} {ε : Ev} {c : Nat} {q : Addr} {o : HO} {d : Dat} (r : Rs A B F H σ ε) (g : Gr NoA B c F H F' H') (hq : H' q = none) (hc : Cont B F' o d) : Gr NoA B c F H F' (upd H' q o) ∧ Res .fr B H F' (upd H' q o) (.ref q) d := by
  have r' := r.gr g
  refine ⟨(g.trans (Gr.alloc0 r'.ex hq) : Gr NoA B (c + 0) F H F' (upd H' q o)), q, rfl, ⟨r'.ex.back hq, fun e => ?_, o, upd_same, hc⟩, g.free hq⟩
  obtain ⟨_, _, o, ho⟩ := r'.bx q e
  rw [hq] at ho
  cases ho
theorem pd_lrange1 (hc : X.calm = true) (hg : Gl X "list") (hm : X.mg "list" = none) (hg2 : Gl X "range") (hm2 : X.mg "range" = none) (h : PD .rep X c a T) (na : starEach [.Call (.Name "range" p2) [a] [] pp] X.env = (false, eval (.Call (.Name "range" p2) [a] [] pp) X.env) :: starEach [] X.env := by rfl)
    (na2 : starEach [a] X.env = (false, eval a X.env) :: starEach [] X.env := by rfl) : PD .fr X c (.Call (.Name "list" p) [.Call (.Name "range" p2) [a] [] pp] [] pos) (dLr1 T) :=
  pe_weak (pe_listRg hc hg hm (prg_1 hg2 hm2 h (na := na2)) (na := na)) fun σ H Q ⟨A, B, F, ε, P, n, r, bx, hn, t, k⟩ =>
    ⟨A, B, F, ε, _, n, r, bx, hn, t, fun v F' H' d g q ⟨j, e1, h1, h2, p⟩ => by
      subst e1
      cases q
      refine ⟨j, rfl, ⟨by omega, by omega, by omega, by omega, by omega⟩, fun q hq => ?_⟩
      have hr := rg_reps (B := B) (F := F') (lo := 0) (n := j.toNat)
      obtain ⟨g2, q2⟩ := res_own (o := .lst (rgV 0 j)) (d := .lst (rngD 0 j.toNat)) r g hq (by unfold rgV; rw [Int.sub_zero]; exact hr)
      exact k _ F' _ _ g2 q2 p⟩
theorem pd_lrange2 (hc : X.calm = true) (hg : Gl X "list") (hm : X.mg "list" = none) (hg2 : Gl X "range") (hm2 : X.mg "range" = none) (h : PD .rep X c1 a Ta) (h2 : PD .rep X c2 b Tb) (na : starEach [.Call (.Name "range" p2) [a, b] [] pp] X.env = (false, eval (.Call (.Name "range" p2) [a, b] [] pp) X.env) :: starEach [] X.env := by rfl)
    (na2 : starEach [a, b] X.env = (false, eval a X.env) :: starEach [b] X.env := by rfl) (nb2 : starEach [b] X.env = (false, eval b X.env) :: starEach [] X.env := by rfl) (hp : (backTo pp (starEach [b] X.env)).any (·.1) = false := by rfl) :
    PD .fr X (c1 + c2) (.Call (.Name "list" p) [.Call (.Name "range" p2) [a, b] [] pp] [] pos) (dLr2 Ta Tb) :=
  pe_weak (pe_listRg hc hg hm (prg_2 hg2 hm2 h h2 (na := na2) (nb := nb2) (hp := hp)) (na := na)) fun σ H Q ⟨A, B, F, ε, P, n, r, bx, hn, t, k⟩ =>
    ⟨A, B, F, ε, _, n, r, bx, by omega, t, fun v F1 H1 d g1 q1 t1 => ⟨A, B, F1, ε, _, n + c1, r.gr g1, g1.box n bx, by omega, t1, fun w F' H' e g2 q ⟨i, j, e1, e2, h1, h2, h3, h4, p⟩ => by
      subst e1 e2
      cases q1
      cases q
      refine ⟨i, j, rfl, rfl, ⟨by omega, by omega, by omega, by omega, by omega⟩, fun q hq => ?_⟩
      have hr := rg_reps (B := B) (F := F') (lo := i) (n := (j - i).toNat)
      obtain ⟨g3, q2⟩ := res_own (o := .lst (rgV i j)) (d := .lst (rngD i (j - i).toNat)) r (g1.trans g2) hq hr
      exact k _ F' _ _ g3 q2 p⟩⟩

/-- a wish on a list of one -/
def at1 (f : Dat → Prop) : List Dat → Prop
  | [y] => f y
  | _ => False
theorem at1_inv {f : Dat → Prop} : ∀ {es : List Dat}, at1 f es → ∃ y, es = [y] ∧ f y
  | [y], h => ⟨y, rfl, h⟩
  | [], h => h.elim
  | _ :: _ :: _, h => h.elim
/-! ### t.index(x), l.index(x) -/
def dTIx (To Te : TD) : TD := fun ε P => To ε fun d => ∃ xs, d = .tup xs ∧ Te ε fun y => ∃ j z, flatD y = true ∧ xs.all flatD = true ∧ xs[j]? = some z ∧ eqD z y = true ∧ (∀ m z', m < j → xs[m]? = some z' → eqD z' y = false) ∧ P (.int (j : Nat))
def dLIx (To Te : TD) : TD := fun ε P => To ε fun d => ∃ xs, d = .lst xs ∧ Te ε fun y => ∃ j z, pl 20 y = true ∧ pl 20 d = true ∧ xs[j]? = some z ∧ eqD z y = true ∧ (∀ m z', m < j → xs[m]? = some z' → eqD z' y = false) ∧ P (.int (j : Nat))
theorem tindex_type : typeOf (.builtin "tuple.index") = pure (.type "method_descriptor") := by rfl
theorem lindex_type : typeOf (.builtin "list.index") = pure (.type "method_descriptor") := by rfl
theorem pd_tindex {apos cpos : Pos} (ho : PD .rep X c1 o Ta) (he : PD .rep X c2 e Te)
    (hbase : attributeBase o "index" X.env (eval o X.env) = eval o X.env := by rfl)
    (hfew : ((backTo cpos (starEach [e] X.env)).all (fun x => !x.1) && (backToKw cpos (keywordEach [] X.env)).all (fun x => x.1.isSome)
      && decide ([e].length + ([] : List Keyword).length + (if ([] : List Keyword).isEmpty then 0 else 1) < 30)) = true := by rfl)
    (hline : (apos.endLine == cpos.line) = true := by rfl) (hs : starEach [e] X.env = (false, eval e X.env) :: starEach [] X.env := by rfl) (hplain : (backTo cpos (starEach [] X.env)).any (·.1) = false := by rfl) :
    PD .rep X (c1 + c2) (.Call (.Attribute o "index" apos) [e] [] cpos) (dTIx Ta Te) :=
  pe_weak (pe_km PySem.F.plainAttrs_tuple PySem.F.slot_tuple_index tindex_type mt_tindex ho (pad_cons he pad_nil hs) hbase hfew hline hs hplain) fun σ H Q ⟨A, B, F, ε, P, n, r, bx, hn, t, k⟩ =>
    ⟨A, B, F, ε, _, n, r, bx, by omega, t, fun v F1 H1 d g1 q1 ⟨xs, e1, t1⟩ => by
      subst e1
      cases q1 with
      | @tup a vs xs ob h1 hd h2 =>
        refine ⟨⟨a, vs, rfl, ob, g1.sub _ _ h1, hd⟩, A, B, F1, ε, at1 _, n + c1, r.gr g1, g1.box n bx, by omega, t1, fun ws F2 H2 es g2 q2 p => ?_⟩
        obtain ⟨y, rfl, p⟩ := at1_inv p
        cases q2 with
        | cons q3 q4 =>
          cases q4
          obtain ⟨j, z, f1, f2, h3, h4, h5, p⟩ := p
          have h2' := h2.mono g2.ex
          obtain ⟨zv, hz, rz⟩ := h2'.get h3
          refine ⟨a, vs, _, j, zv, rfl, rfl, KT.sq ⟨_, g2.sub _ _ (g2.ex _ _ h1), hd⟩, flat_rep q3 f1, flat_reps h2' f2, hz, ?_, fun m z' hm hz' => ?_, k _ F2 H2 _ (g1.trans g2) .int p⟩
          · rw [eqV_eqD rz q3 (List.all_eq_true.mp f2 z (List.mem_of_getElem? h3)) f1]
            exact h4
          · obtain ⟨d', hd', rd'⟩ := h2'.getV hz'
            rw [eqV_eqD rd' q3 (List.all_eq_true.mp f2 d' (List.mem_of_getElem? hd')) f1]
            exact h5 m d' hm hd'⟩
theorem pys_get {xs : List Dat} {j : Nat} : (pys xs)[j]? = xs[j]?.map py := by
  induction xs generalizing j with
  | nil => simp [pys]
  | cons x xs ih =>
    cases j with
    | zero => simp [pys]
    | succ j => simpa [pys] using ih
theorem pd_lindex {apos cpos : Pos} (hu : X.A.units + 65 < cLine) (ho : PD .sh X c1 o Ta) (he : PD .rep X c2 e Te)
    (hbase : attributeBase o "index" X.env (eval o X.env) = eval o X.env := by rfl)
    (hfew : ((backTo cpos (starEach [e] X.env)).all (fun x => !x.1) && (backToKw cpos (keywordEach [] X.env)).all (fun x => x.1.isSome)
      && decide ([e].length + ([] : List Keyword).length + (if ([] : List Keyword).isEmpty then 0 else 1) < 30)) = true := by rfl)
    (hline : (apos.endLine == cpos.line) = true := by rfl) (hs : starEach [e] X.env = (false, eval e X.env) :: starEach [] X.env := by rfl) (hplain : (backTo cpos (starEach [] X.env)).any (·.1) = false := by rfl) :
    PD .rep X (c1 + c2) (.Call (.Attribute o "index" apos) [e] [] cpos) (dLIx Ta Te) :=
  pe_weak (pe_bm PySem.F.plainAttrs_list PySem.F.slot_list_index lindex_type (mt_indexD hu) ho (pad_cons he pad_nil hs) hbase hfew hline hs hplain) fun σ H Q ⟨A, B, F, ε, P, n, r, bx, hn, t, k⟩ =>
    ⟨A, B, F, ε, _, n, r, bx, by omega, t, fun v F1 H1 d g1 q1 ⟨xs, e1, t1⟩ => by
      subst e1
      obtain ⟨a, vs, rfl, h1, h2⟩ := sh_lst g1.sub q1
      refine ⟨.inl ⟨rfl, vs, SqL.of h1⟩, A, B, F1, ε, at1 _, n + c1, r.gr g1, g1.box n bx, by omega, t1, fun ws F2 H2 es g2 q2 p => ?_⟩
      obtain ⟨y, rfl, p⟩ := at1_inv p
      cases q2 with
      | cons q3 q4 =>
        cases q4
        obtain ⟨j, z, f1, f2, h3, h4, h5, p⟩ := p
        have f2' : xs.all (pl 19) = true := f2
        have q5 := q1.gr g2
        have dpl := sh_dp (K := X.K) g2.sub q5 f2
        simp only [py] at dpl
        have sl := shaped_of f2 (by decide)
        simp only [py] at sl
        refine ⟨a, _, py _, pys xs, j, py z, rfl, rfl, dpl, dp_of g2.sub _ q3 f1, sl, shaped_of f1 (by decide), by rw [pys_get, h3]; rfl, ?_, fun m z' hm hz' => ?_, k _ F2 H2 _ (g1.trans g2) .int p⟩
        · rw [eqv_py z _ (List.all_eq_true.mp f2' z (List.mem_of_getElem? h3)) f1]
          exact h4
        · rw [pys_get] at hz'
          cases e0 : xs[m]? with
          | none => rw [e0] at hz'; cases hz'
          | some w =>
            rw [e0] at hz'
            cases hz'
            rw [eqv_py w _ (List.all_eq_true.mp f2' w (List.mem_of_getElem? e0)) f1]
            exact h5 m w hm e0⟩

/-! ### len(set(t)), all different -/
def dLS (T : TD) : TD := fun ε P => T ε fun d => ∃ xs ns, d = .tup xs ∧ intsD xs = some ns ∧ ns.Nodup ∧ ns.length ≤ 4000 ∧ P (.int (ns.length : Nat))
theorem pd_lenSet {q : Pos} (hg : Gl X "len") (hm : X.mg "len" = none) (hg2 : Gl X "set") (hm2 : X.mg "set" = none) (ha : PD .rep X c a T) (hc : X.calm = true) (na : starEach [a] X.env = (false, eval a X.env) :: starEach [] X.env := by rfl) :
    PD .rep X c (.Call (.Name "len" p) [.Call (.Name "set" p2) [a] [] q] [] pos) (dLS T) := pe_weak (pe_lenSetT hg hm hg2 hm2 ha hc (na := na)) fun σ H Q ⟨A, B, F, ε, P, n, r, bx, hn, t, k⟩ =>
  ⟨A, B, F, ε, _, n, r, bx, hn, t, fun v F1 H1 d g1 q1 ⟨xs, ns, e1, h1, h2, h3, p⟩ => by
    subst e1
    obtain ⟨l, rfl, h4⟩ := sh_tints (Hb := H) g1.sub (.inl q1) h1
    exact ⟨l, ns, rfl, h4.sq, h2, h3, k _ F1 H1 _ g1 .int p⟩⟩

/-! ### { } -/
theorem pd_dnewK : PD .fr X 0 (.Dict [] [] pos) (dC (.dct [])) := pe_weak pe_dnewK fun σ H Q ⟨A, B, F, ε, P, n, r, bx, hn, t, k⟩ => fun q hq => by
  obtain ⟨g, q2⟩ := res_own (o := .dK []) (d := .dct []) r (Gr.refl r.ex) hq ⟨rfl, .nil⟩
  exact k _ F _ _ g q2 t
theorem pd_dnewT : PD .fr X 0 (.Dict [] [] pos) (dC (.dtt [])) := pe_weak pe_dnewT fun σ H Q ⟨A, B, F, ε, P, n, r, bx, hn, t, k⟩ => fun q hq => by
  obtain ⟨g, q2⟩ := res_own (o := .dT []) (d := .dtt []) r (Gr.refl r.ex) hq ⟨rfl, .nil⟩
  exact k _ F _ _ g q2 t
end
end DL
set_option maxRecDepth 100000
set_option maxHeartbeats 2000000
/-! DL9: lending an owned object, statements that change an owned object, more stores. -/
namespace DL
open PySem PySem.Spec PyProof.Rows L2 RZ

/-! ### lending an owned object to an expression -/
mutual
def noD : Dat → Bool
  | .dct _ => false
  | .dtt _ => false
  | .obj _ _ => false
  | .lst xs => noDs xs
  | .tup xs => noDs xs
  | _ => true
def noDs : List Dat → Bool
  | [] => true
  | x :: xs => noD x && noDs xs
end
/-- data without any object -/
def atomD : Dat → Bool
  | .non => true
  | .bl _ => true
  | .int _ => true
  | .str _ => true
  | _ => false
def del (F : Hp) (p : Addr) : Hp := fun a => if a = p then none else F a
theorem del_ne {F : Hp} {p a : Addr} (h : a ≠ p) : del F p a = F a := if_neg h
def isDct : HO → Prop
  | .dK _ => True
  | .dT _ => True
  | _ => False
mutual
theorem rep_del {B : Option Addr} {F : Hp} {p : Addr} {o : HO} (hp : F p = some o) (ho : isDct o) : ∀ {v : V} {d : Dat}, Rep B F v d → noD d = true → Rep B (del F p) v d
  | _, _, .non, _ => .non
  | _, _, .bl, _ => .bl
  | _, _, .int, _ => .int
  | _, _, .str, _ => .str
  | _, _, .tup (p := q) h hd r, n => .tup (by rw [del_ne (fun e => by rw [e, hp] at h; cases h; exact ho)]; exact h) hd (reps_del hp ho r (by simpa only [noD] using n))
  | _, _, .lst (p := q) h r, n => .lst (by rw [del_ne (fun e => by rw [e, hp] at h; cases h; exact ho)]; exact h) (reps_del hp ho r (by simpa only [noD] using n))
  | _, _, .dct _ _ _, n => by simp [noD] at n
  | _, _, .dtt _ _ _, n => by simp [noD] at n
  | _, _, .obj _ _ _, n => by simp [noD] at n
  | _, _, .cell h, _ => .cell h
  | _, _, .ty, _ => .ty
  | _, _, .cls, _ => .cls
theorem reps_del {B : Option Addr} {F : Hp} {p : Addr} {o : HO} (hp : F p = some o) (ho : isDct o) : ∀ {vs : List V} {ds : List Dat}, Reps B F vs ds → noDs ds = true → Reps B (del F p) vs ds
  | _, _, .nil, _ => .nil
  | _, _, .cons h r, n => by
    rw [noDs, Bool.and_eq_true] at n
    exact .cons (rep_del hp ho h n.1) (reps_del hp ho r n.2)
end
theorem atom_del {B : Option Addr} {F F' : Hp} {v : V} {d : Dat} (h : Rep B F v d) (n : atomD d = true) : Rep B F' v d := by
  cases h <;> first | (simp [atomD] at n; done) | constructor
theorem Gr.back {B : Option Addr} {c : Nat} {F H F' H' : Hp} {p : Addr} {o : HO} (g : Gr NoA B c (upd F p o) H F' H') (hF : F p = none) : Gr NoA B c F H (del F' p) H' where
  ex := fun a u h => by
    have : a ≠ p := ne_of_none h hF
    rw [del_ne this]
    exact g.ex a u (by rw [upd_ne this]; exact h)
  sub := fun a u h => by
    by_cases z : a = p
    · unfold del at h; rw [if_pos z] at h; cases h
    · rw [del_ne z] at h; exact g.sub a u h
  new := fun a u h => by
    by_cases z : a = p
    · unfold del at h; rw [if_pos z] at h; cases h
    · rw [del_ne z] at h
      rcases g.new a u h with y | y
      · rw [upd_ne z] at y; exact .inl y
      · exact .inr y
  keep := g.keep
  there := g.there
  box := g.box
section
variable {X : Cx} {e a b t0 : Expr} {es : List Expr} {pos p : Pos} {c c1 c2 c3 : Nat} {T Ta Tb Te : TD} {U : TAD} {m : Md} {Tt : TTD} {Ts : TSD}
/-- the owned thing at slot i, lent; the result is no object -/
def dBorA (i : Nat) (T : TD) : TD := fun ε P => ∃ d, ε[i]? = some (.own d) ∧ T (ε.set i (.val d)) fun d' => atomD d' = true ∧ P d'
theorem pd_borA (i : Nat) (h : PD .rep X c e T) : PD .rep X c e (dBorA i T) := pe_weak h fun σ H Q ⟨A, B, F, ε, P, n, r, bx, hn, ⟨d, hd, t⟩, k⟩ => by
  obtain ⟨p, o, hF, hB, hH, hc, r', g0⟩ := r.freezeAt hd
  exact ⟨A, B, upd F p o, _, _, n, r', bx, hn, t, fun v F' H' d' g q ⟨n1, q1⟩ => k v (del F' p) H' d' (g.back hF) (atom_del q n1) q1⟩
/-- .. a dict, lent; the result has no dict in it -/
def isDD : Dat → Bool
  | .dct _ => true
  | .dtt _ => true
  | _ => false
def dBorD (i : Nat) (T : TD) : TD := fun ε P => ∃ d, ε[i]? = some (.own d) ∧ isDD d = true ∧ T (ε.set i (.val d)) fun d' => noD d' = true ∧ P d'
theorem pd_borD (i : Nat) (h : PD .rep X c e T) : PD .rep X c e (dBorD i T) := pe_weak h fun σ H Q ⟨A, B, F, ε, P, n, r, bx, hn, ⟨d, hd, hk, t⟩, k⟩ => by
  obtain ⟨p, o, hF, hB, hH, hc, r', g0⟩ := r.freezeAt hd
  refine ⟨A, B, upd F p o, _, _, n, r', bx, hn, t, fun v F' H' d' g q ⟨n1, q1⟩ => k v (del F' p) H' d' (g.back hF) (rep_del (g.ex _ _ upd_same) ?_ q n1) q1⟩
  cases d <;> simp [isDD] at hk <;> cases o <;> first | exact hc.elim | trivial
/-- .. to a test -/
def tBor (i : Nat) (Tt : TTD) : TTD := fun ε P => ∃ d, ε[i]? = some (.own d) ∧ Tt (ε.set i (.val d)) P
theorem ptd_bor (i : Nat) (h : PTD X c e Tt) : PTD X c e (tBor i Tt) := pt_weak h fun σ H Q ⟨A, B, F, ε, P, n, r, bx, hn, ⟨d, hd, t⟩, k⟩ => by
  obtain ⟨p, o, hF, hB, hH, hc, r', g0⟩ := r.freezeAt hd
  exact ⟨A, B, upd F p o, _, _, n, r', bx, hn, t, fun b F' H' g q1 => k b (del F' p) H' (g.back hF) q1⟩

/-! ### stores through a target -/
def sAsgG (T : TD) (G : GD) : TSD := fun E ε => T ε fun d => G d ε E.nx
theorem sd_asgG {tg : Expr} {is : List Nat} {G : GD} (he : PD .rep X c e T) (hg : PGD false X is tg G) (hs : swapsWithSole [tg] e pos.line X.env = pure false := by rfl) (hw : swappedStores [tg] e X.env = pure none := by rfl)
    (h1 : (assignEach [tg] X.env).map (·.2) = [assign tg X.env] := by rfl) : SD X c (.Assign [tg] e pos) (sAsgG T G) := ps_weak (ps_asg he hg hs hw h1) fun D σ H ⟨A, B, F, ε, E, n, r, bx, hn, t, k1, _⟩ =>
  ⟨A, B, F, ε, _, n, r, bx, hn, t, fun v F' H' d g q t2 => ⟨A, B, F', ε, d, E.nx, r.gr g, .inl q, t2, fun σ' ε' rs _ z => k1 F' H' σ' ε' g.any rs z⟩⟩
def gUnlD (n : Nat) (Gs : GsD) : GD := fun d ε R => ∃ ds, d = .lst ds ∧ ds.length = n ∧ Gs ds ε R
theorem pgd_unl {is : List Nat} {Gs : GsD} {es : List Expr} {k n : Nat} (hc : X.calm = true) (h : PGsD X is es Gs) (hn : (assignEach es X.env).length = n := by rfl) (hst : (assignEach es X.env).findIdx? (·.1) = none := by rfl) : PGD false X is (.Tuple es k pos) (gUnlD n Gs) :=
  pg_weak (pg_unl hc h hn hst) fun v σ H Q ⟨A, B, F, ε, d, R, r, rd, ⟨ds, e, hl, t⟩, k⟩ => by
    subst e
    cases rd.strict with
    | lst h1 h2 => exact ⟨_, _, rfl, SqL.of (r.ex _ _ h1), h2.length.trans hl, A, B, F, ε, ds, R, r, h2, t, k⟩
/-- a, b, c = e1, e2, e3, the names local -/
theorem sd_par3 {i j l : Nat} {ms : List Md} {x y z : Str} {T : TAD} {px py pz pt : Pos} {kt k2 pt2} {a b c0 : Expr} {m1 m2 m3 : Md} (h : PMD [m1, m2, m3] X c [a, b, c0] T) (hm : noSh [m1, m2, m3] = true) (hc : X.calm = true) (hN : X.N.Nodup) (hi : X.N[i]? = some x) (hj : X.N[j]? = some y) (hl : X.N[l]? = some z) (hij : i ≠ j) (hil : i ≠ l) (hjl : j ≠ l)
    (hx : X.env.scope.names.lookup x = some .local) (hy : X.env.scope.names.lookup y = some .local) (hz : X.env.scope.names.lookup z = some .local)
    (hw : swappedStores [.Tuple [.Name x px, .Name y py, .Name z pz] kt pt] (.Tuple [a, b, c0] k2 pt2) X.env = pure (some [x, y, z])) (hs : swapsWithSole [.Tuple [.Name x px, .Name y py, .Name z pz] kt pt] (.Tuple [a, b, c0] k2 pt2) pos.line X.env = pure false := by rfl) :
    SD X c (.Assign [.Tuple [.Name x px, .Name y py, .Name z pz] kt pt] (.Tuple [a, b, c0] k2 pt2) pos) (sMul [i, j, l] [m1, m2, m3] T) :=
  ps_weak (ps_par3 hc hN hi hj hl hij hil hjl hx hy hz h hw hs) fun D σ H ⟨A, B, F, ε, E, n, r, bx, hn, t, k1, _⟩ => ⟨A, B, F, ε, _, n, r, bx, hn, t, fun vs F' H' ds g q p => by
    have := mul_end (is := [i, j, l]) hm r g q
    cases q with
    | cons q1 q2 q3 =>
      cases q3 with
      | cons q4 q5 q6 =>
        cases q6 with
        | cons q7 q8 q9 =>
          cases q9
          exact ⟨_, _, _, rfl, k1 F' H' _ _ g.any this p⟩⟩

/-! ### an owned list changes -/
theorem own_lst {A : Addr → Prop} {B : Option Addr} {F H : Hp} {σ : L2.St} {ε : Ev} {i : Nat} {ds : List Dat} (r : Rs A B F H σ ε) (h : ε[i]? = some (.own (.lst ds))) : ∃ p vs, σ[i]? = some (some (.ref p)) ∧ H p = some (.lst vs) ∧ Reps B F vs ds := by
  obtain ⟨p, h1, h2, w⟩ := r.own i _ h
  obtain ⟨o, ho, hc⟩ := w.con
  cases o with
  | lst vs => exact ⟨p, vs, h1, ho, hc⟩
  | _ => exact hc.elim
theorem append_type : typeOf (.builtin "list.append") = pure (.type "method_descriptor") := by rfl
theorem extend_type : typeOf (.builtin "list.extend") = pure (.type "method_descriptor") := by rfl
theorem pop_type : typeOf (.builtin "list.pop") = pure (.type "method_descriptor") := by rfl
variable {i j : Nat} {x y : Str} {px py apos cpos bpos dpos : Pos}
def sApp (i : Nat) (T : TD) : TSD := fun E ε => T ε fun d => ∃ ds, ε[i]? = some (.own (.lst ds)) ∧ ds.length < 100000 ∧ E.nx (ε.set i (.own (.lst (ds ++ [d]))))
theorem set_len {B : Option Addr} {F H : Hp} {A : Addr → Prop} {σ : L2.St} {ε : Ev} (r : Rs A B F H σ ε) {s : Sl} (h : ε[i]? = some s) : i < ε.length := (List.getElem?_eq_some_iff.mp h).1
/-- x.append(e) -/
theorem sd_app (hx : PE X (.Name x px) (tVar i)) (he : PD .rep X c e T)
    (hbase : attributeBase (.Name x px) "append" X.env (eval (.Name x px) X.env) = eval (.Name x px) X.env := by rfl)
    (hfew : ((backTo cpos (starEach [e] X.env)).all (fun x => !x.1) && (backToKw cpos (keywordEach [] X.env)).all (fun x => x.1.isSome)
      && decide ([e].length + ([] : List Keyword).length + (if ([] : List Keyword).isEmpty then 0 else 1) < 30)) = true := by rfl)
    (hline : (apos.endLine == cpos.line) = true := by rfl) (hs : starEach [e] X.env = (false, eval e X.env) :: starEach [] X.env := by rfl) (hplain : (backTo cpos (starEach [] X.env)).any (·.1) = false := by rfl)
    (hsw : swapsWith (.Call (.Attribute (.Name x px) "append" apos) [e] [] cpos) none pos.line X.env = pure false := by rfl) :
    SD X c (.Expr (.Call (.Attribute (.Name x px) "append" apos) [e] [] cpos) pos) (fun E ε => (∃ ds, ε[i]? = some (.own (.lst ds))) ∧ sApp i T E ε) :=
  ps_weak (ps_expr (pe_bm PySem.F.plainAttrs_list PySem.F.slot_list_append append_type mt_append hx (pad_cons he pad_nil hs) hbase hfew hline hs hplain) hsw) fun D σ H ⟨A, B, F, ε, E, n, r, bx, hn, ⟨⟨ds0, h0⟩, t⟩, k1, _⟩ => by
    obtain ⟨p0, vs0, hp, hH, _⟩ := own_lst r h0
    refine ⟨_, hp, .inl ⟨rfl, vs0, SqL.of hH⟩, A, B, F, ε, at1 _, n, r, bx, hn, t, fun ws F' H' es g q p => ?_⟩
    obtain ⟨d, rfl, ds, h1, hl, p⟩ := at1_inv p
    cases q with
    | cons q1 q2 =>
      cases q2
      have r' := r.gr g
      obtain ⟨p1, vs, h2, h3, h4⟩ := own_lst r' h1
      rw [hp] at h2
      cases h2
      obtain ⟨r2, g2⟩ := r'.write h1 hp (o := .lst (vs ++ [_])) (d' := .lst (ds ++ [d])) (h4.append (.cons q1 .nil))
      exact ⟨p0, vs, _, rfl, rfl, h3, by rw [h4.length]; exact sz5lt (by omega), k1 F' _ σ _ ((g.any.trans g2).mono (by omega)) r2 p⟩
def sExt (i : Nat) (T : TD) : TSD := fun E ε => (∃ ds, ε[i]? = some (.own (.lst ds))) ∧ T ε fun d => ∃ ds xs, ε[i]? = some (.own (.lst ds)) ∧ d = .lst xs ∧ ds.length + xs.length ≤ 100000 ∧ E.nx (ε.set i (.own (.lst (ds ++ xs))))
theorem sd_ext (hx : PE X (.Name x px) (tVar i)) (he : PD .rep X c e T)
    (hbase : attributeBase (.Name x px) "extend" X.env (eval (.Name x px) X.env) = eval (.Name x px) X.env := by rfl)
    (hfew : ((backTo cpos (starEach [e] X.env)).all (fun x => !x.1) && (backToKw cpos (keywordEach [] X.env)).all (fun x => x.1.isSome)
      && decide ([e].length + ([] : List Keyword).length + (if ([] : List Keyword).isEmpty then 0 else 1) < 30)) = true := by rfl)
    (hline : (apos.endLine == cpos.line) = true := by rfl) (hs : starEach [e] X.env = (false, eval e X.env) :: starEach [] X.env := by rfl) (hplain : (backTo cpos (starEach [] X.env)).any (·.1) = false := by rfl)
    (hsw : swapsWith (.Call (.Attribute (.Name x px) "extend" apos) [e] [] cpos) none pos.line X.env = pure false := by rfl) :
    SD X c (.Expr (.Call (.Attribute (.Name x px) "extend" apos) [e] [] cpos) pos) (sExt i T) :=
  ps_weak (ps_expr (pe_bm PySem.F.plainAttrs_list PySem.F.slot_list_extend extend_type mt_extend hx (pad_cons he pad_nil hs) hbase hfew hline hs hplain) hsw) fun D σ H ⟨A, B, F, ε, E, n, r, bx, hn, ⟨⟨ds0, h0⟩, t⟩, k1, _⟩ => by
    obtain ⟨p0, vs0, hp, hH, _⟩ := own_lst r h0
    refine ⟨_, hp, .inl ⟨rfl, vs0, SqL.of hH⟩, A, B, F, ε, at1 _, n, r, bx, hn, t, fun ws F' H' es g q p => ?_⟩
    obtain ⟨d, rfl, ds, xs, h1, rfl, hl, p⟩ := at1_inv p
    cases q with
    | cons q1 q2 =>
      cases q2
      cases q1 with
      | @lst a zs _ h5 h6 =>
        have r' := r.gr g
        obtain ⟨p1, vs, h2, h3, h4⟩ := own_lst r' h1
        rw [hp] at h2
        cases h2
        obtain ⟨r2, g2⟩ := r'.write h1 hp (o := .lst (vs ++ zs)) (d' := .lst (ds ++ xs)) (h4.append h6)
        exact ⟨p0, a, vs, zs, rfl, rfl, h3, g.sub _ _ h5, by rw [h4.length, h6.length]; exact sz5 hl, k1 F' _ σ _ ((g.any.trans g2).mono (by omega)) r2 p⟩
/-- y = x.pop() -/
def sPop (i j : Nat) : TSD := fun E ε => ∃ ds d, ε[j]? = some (.own (.lst (ds ++ [d]))) ∧ E.nx ((ε.set j (.own (.lst ds))).set i (.val d))
theorem sd_pop (hx : PE X (.Name x px) (tVar j)) (hN : X.N.Nodup) (hi : X.N[i]? = some y) (hy : Loc X.env.scope y)
    (hbase : attributeBase (.Name x px) "pop" X.env (eval (.Name x px) X.env) = eval (.Name x px) X.env := by rfl) (hline : (apos.endLine == cpos.line) = true := by rfl)
    (hs : swapsWith (.Call (.Attribute (.Name x px) "pop" apos) [] [] cpos) (some (.Name y py)) pos.line X.env = pure false := by rfl)
    (hf : X.fn y = true ∨ X.env.scope.names.lookup y = some .local := by first | exact .inl rfl | exact .inr rfl | assumption) :
    SD X 0 (.Assign [.Name y py] (.Call (.Attribute (.Name x px) "pop" apos) [] [] cpos) pos) (sPop i j) :=
  ps_weak (ps_set hN hi hy (pe_bm0 PySem.F.plainAttrs_list PySem.F.slot_list_pop pop_type mt_pop hx hbase hline) hs hf) fun D σ H ⟨A, B, F, ε, E, n, r, bx, hn, ⟨ds, d, h0, t⟩, k1, _⟩ => by
    obtain ⟨p0, vs, hp, hH, hr⟩ := own_lst r h0
    have hl := hr.length
    have hd : (ds ++ [d])[vs.length - 1]? = some d := by rw [hl]; simp
    obtain ⟨v, hv, rv⟩ := hr.get hd
    have h4 : Reps B F vs.dropLast ds := by
      have := hr.dropLast
      rwa [List.dropLast_concat] at this
    obtain ⟨r2, g2⟩ := r.write h0 hp (o := .lst vs.dropLast) (d' := .lst ds) h4
    exact ⟨_, hp, .inl ⟨rfl, vs, SqL.of hH⟩, p0, vs, v, rfl, rfl, hH, hv, k1 F _ _ _ (g2.mono (by omega)) (r2.setVal rv) t⟩
/-- y.append(x.pop(e)) -/
def sAppPop (i j : Nat) (T : TD) : TSD := fun E ε => ∃ ys xs, i ≠ j ∧ ε[i]? = some (.own (.lst ys)) ∧ ε[j]? = some (.own (.lst xs)) ∧ T ε fun d => ∃ (k : Nat) (z : Dat), d = .int (k : Int) ∧ k < 2 ^ 62 ∧ xs[k]? = some z ∧ ys.length < 100000 ∧ E.nx ((ε.set j (.own (.lst (xs.eraseIdx k)))).set i (.own (.lst (ys ++ [z]))))
theorem sd_appPop (hy : PE X (.Name y py) (tVar i)) (hx : PE X (.Name x px) (tVar j)) (he : PD .rep X c e T)
    (hb1 : attributeBase (.Name x px) "pop" X.env (eval (.Name x px) X.env) = eval (.Name x px) X.env := by rfl)
    (hf1 : ((backTo dpos (starEach [e] X.env)).all (fun x => !x.1) && (backToKw dpos (keywordEach [] X.env)).all (fun x => x.1.isSome)
      && decide ([e].length + ([] : List Keyword).length + (if ([] : List Keyword).isEmpty then 0 else 1) < 30)) = true := by rfl)
    (hl1 : (bpos.endLine == dpos.line) = true := by rfl) (hs1 : starEach [e] X.env = (false, eval e X.env) :: starEach [] X.env := by rfl) (hp1 : (backTo dpos (starEach [] X.env)).any (·.1) = false := by rfl)
    (hbase : attributeBase (.Name y py) "append" X.env (eval (.Name y py) X.env) = eval (.Name y py) X.env := by rfl)
    (hfew : ((backTo cpos (starEach [.Call (.Attribute (.Name x px) "pop" bpos) [e] [] dpos] X.env)).all (fun x => !x.1) && (backToKw cpos (keywordEach [] X.env)).all (fun x => x.1.isSome)
      && decide (([.Call (.Attribute (.Name x px) "pop" bpos) [e] [] dpos] : List Expr).length + ([] : List Keyword).length + (if ([] : List Keyword).isEmpty then 0 else 1) < 30)) = true := by rfl)
    (hline : (apos.endLine == cpos.line) = true := by rfl) (hs : starEach [.Call (.Attribute (.Name x px) "pop" bpos) [e] [] dpos] X.env = (false, eval (.Call (.Attribute (.Name x px) "pop" bpos) [e] [] dpos) X.env) :: starEach [] X.env := by rfl) (hplain : (backTo cpos (starEach [] X.env)).any (·.1) = false := by rfl)
    (hsw : swapsWith (.Call (.Attribute (.Name y py) "append" apos) [.Call (.Attribute (.Name x px) "pop" bpos) [e] [] dpos] [] cpos) none pos.line X.env = pure false := by rfl) :
    SD X c (.Expr (.Call (.Attribute (.Name y py) "append" apos) [.Call (.Attribute (.Name x px) "pop" bpos) [e] [] dpos] [] cpos) pos) (sAppPop i j T) :=
  ps_weak (ps_expr (pe_bm PySem.F.plainAttrs_list PySem.F.slot_list_append append_type mt_append hy (pa_cons (pe_bm PySem.F.plainAttrs_list PySem.F.slot_list_pop pop_type mt_popAt hx (pad_cons he pad_nil hs1) hb1 hf1 hl1 hs1 hp1) pa_nil hs) hbase hfew hline hs hplain) hsw) fun D σ H ⟨A, B, F, ε, E, n, r, bx, hn, ⟨ys, xs, hij, hi, hj, t⟩, k1, _⟩ => by
    obtain ⟨p0, vs0, hp, hH, _⟩ := own_lst r hi
    obtain ⟨p1, ws0, hp1', hH1, _⟩ := own_lst r hj
    refine ⟨_, hp, .inl ⟨rfl, vs0, SqL.of hH⟩, _, hp1', .inl ⟨rfl, ws0, SqL.of hH1⟩, A, B, F, ε, at1 _, n, r, bx, hn, t, fun us F' H' es g q p => ?_⟩
    obtain ⟨d, rfl, k, z, rfl, hk, hz, hl, p⟩ := at1_inv p
    cases q with
    | cons q1 q2 =>
      cases q2
      cases q1
      have r' := r.gr g
      obtain ⟨p2, ws, h2, h3, h4⟩ := own_lst r' hj
      rw [hp1'] at h2
      cases h2
      obtain ⟨zv, hzv, rz⟩ := h4.get hz
      have hkl : k < ws.length := (List.getElem?_eq_some_iff.mp hzv).1
      obtain ⟨r2, g2⟩ := r'.write hj hp1' (o := .lst (ws.eraseIdx k)) (d' := .lst (xs.eraseIdx k)) (h4.eraseIdx k)
      have hi2 : (ε.set j (.own (.lst (xs.eraseIdx k))))[i]? = some (.own (.lst ys)) := by
        rw [List.getElem?_set_ne (Ne.symm hij)]
        exact hi
      obtain ⟨p3, vs, h5, h6, h7⟩ := own_lst r2 hi2
      rw [hp] at h5
      cases h5
      obtain ⟨r3, g3⟩ := r2.write hi2 hp (o := .lst (vs ++ [zv])) (d' := .lst (ys ++ [z])) (h7.append (.cons rz .nil))
      exact ⟨p1, ws, (k : Int), k, zv, rfl, rfl, h3, by omega, by omega, by rw [seqIndex_of (by omega) (by omega)]; simp, hzv, p0, vs, zv, rfl, rfl, h6, by rw [h7.length]; exact sz5lt (by omega), k1 F' _ σ _ (((g.any.trans g2).trans g3).mono (by omega)) r3 p⟩

/-! ### x[i] = e, x[i] += e of an owned list -/
def sSetL (i : Nat) (Ti Te : TD) : TSD := fun E ε => Te ε fun z => (∃ ds, ε[i]? = some (.own (.lst ds))) ∧ Ti ε fun d => ∃ ds k j, ε[i]? = some (.own (.lst ds)) ∧ d = .int k ∧ ixN ds.length k = some j ∧ E.nx (ε.set i (.own (.lst (ds.set j z))))
theorem sd_setL {ie : Expr} {tpos : Pos} {Ti : TD} (hx : PE X (.Name x px) (tVar i)) (hi : PD .rep X c1 ie Ti) (he : PD .rep X c2 e Te)
    (ha : ∀ v, assign (.Subscript (.Name x px) ie tpos) X.env v = (do
      let ov ← holding [v] (eval (.Name x px) X.env)
      let iv ← holding [v, ov] (eval ie X.env)
      standAt tpos
      holding [v, ov, iv] (setItem ov iv v)
      release [v, ov, iv] []) := by intro _; rfl)
    (hs : swapsWithSole [.Subscript (.Name x px) ie tpos] e pos.line X.env = pure false := by rfl) (hw : swappedStores [.Subscript (.Name x px) ie tpos] e X.env = pure none := by rfl)
    (h1 : (assignEach [.Subscript (.Name x px) ie tpos] X.env).map (·.2) = [assign (.Subscript (.Name x px) ie tpos) X.env] := by rfl) : SD X (c2 + c1) (.Assign [.Subscript (.Name x px) ie tpos] e pos) (sSetL i Ti Te) :=
  ps_weak (ps_asg he (pg_sub hx hi set_list ha) hs hw h1) fun D σ H ⟨A, B, F, ε, E, n, r, bx, hn, t, k1, _⟩ =>
    ⟨A, B, F, ε, _, n, r, bx, by omega, t, fun v F1 H1 z g1 q1 ⟨⟨ds0, h0⟩, t1⟩ => by
      have r1 := r.gr g1
      obtain ⟨p0, vs0, hp, hH, _⟩ := own_lst r1 h0
      refine ⟨_, hp, A, B, F1, ε, _, n + c2, r1, g1.box n bx, by omega, t1, fun iv F2 H2 d g2 q2 ⟨ds, k, j, h2, e2, h3, p⟩ => ?_⟩
      subst e2
      cases q2
      have r2 := r1.gr g2
      obtain ⟨p1, vs, h4, h5, h6⟩ := own_lst r2 h2
      rw [hp] at h4
      cases h4
      obtain ⟨r3, g3⟩ := r2.write h2 hp (o := .lst (vs.set j v)) (d' := .lst (ds.set j z)) (Reps.set (q1.mono g2.ex) j h6)
      exact ⟨p0, vs, k, j, rfl, rfl, h5, by rw [h6.length]; exact h3, k1 F2 _ σ _ (((g1.trans g2).any.trans g3).mono (by omega)) r3 p⟩⟩
/-- o[i] of a list, by values -/
theorem get_list : PGet X (fun o i H Q => ∃ a xs k v, o = .ref a ∧ i = .int k ∧ 0 ≤ k ∧ SqL X.K H a xs ∧ atI xs k = some v ∧ Q v H) := by
  intro pins s σ H o i ov iv Q I ro ri h
  obtain ⟨a, xs, k, v, rfl, rfl, h0, hx, hk, q⟩ := h
  cases ro
  obtain ⟨t, rfl⟩ := ri
  obtain ⟨its, r, pl, hz⟩ := I.list hx
  obtain ⟨j, h1, h2, h3, h4, h5⟩ := atI_get hk
  obtain ⟨u, hu, ru⟩ := r.get h2
  have hn := line63
  have hj : k.toNat = j := by
    rw [seqIndex_of h0 h5] at h1
    exact Option.some.inj h1
  exact wpAny_getItem_list pl.isList h0 (by omega) (by rw [hj]; simpa using hu) ⟨v, H, I, ru, q⟩
def sAugL (i : Nat) (Ti Te : TD) : TSD := fun E ε => (∃ ds, ε[i]? = some (.own (.lst ds))) ∧ Ti ε fun d => ∃ (ds : List Dat) (k : Nat) (a : Int), ε[i]? = some (.own (.lst ds)) ∧ d = .int (k : Int) ∧ ds[k]? = some (.int a) ∧ Te ε fun z => ∃ b : Int, z = .int b ∧ E.nx (ε.set i (.own (.lst (ds.set k (.int (a + b))))))
theorem sd_augL {ie : Expr} {tpos : Pos} {Ti : TD} (hx : PE X (.Name x px) (tVar i)) (hi : PD .rep X c1 ie Ti) (he : PD .rep X c2 e Te)
    (ha : ∀ ov iv new, augStore ie ov iv new = (do holding [new, ov, iv] (setItem ov iv new); release [new, ov, iv] []; pure .next) := by intros; rfl) : SD X (c1 + c2) (.AugAssign (.Subscript (.Name x px) ie tpos) .Add e pos) (sAugL i Ti Te) :=
  ps_weak (ps_augS hx hi get_list he ip_add set_list ha) fun D σ H ⟨A, B, F, ε, E, n, r, bx, hn, ⟨⟨ds0, h0⟩, t⟩, k1, _⟩ => by
    obtain ⟨p0, vs0, hp, hH, _⟩ := own_lst r h0
    refine ⟨_, hp, A, B, F, ε, _, n, r, bx, by omega, t, fun iv F1 H1 d g1 q1 ⟨ds, k, a, h1, e1, h2, t1⟩ => ?_⟩
    subst e1
    cases q1
    have r1 := r.gr g1
    obtain ⟨p1, vs, h4, h5, h6⟩ := own_lst r1 h1
    rw [hp] at h4
    cases h4
    obtain ⟨v, hv, rv⟩ := h6.get h2
    cases rv
    refine ⟨p0, vs, (k : Int), .int a, rfl, rfl, by omega, SqL.of h5, atI_nat hv, A, B, F1, ε, _, n + c1, r1, g1.box n bx, by omega, t1, fun ev F2 H2 z g2 q2 ⟨b, e2, p⟩ => ?_⟩
    subst e2
    cases q2
    have r2 := r1.gr g2
    obtain ⟨p2, ws, h7, h8, h9⟩ := own_lst r2 h1
    rw [hp] at h7
    cases h7
    obtain ⟨r3, g3⟩ := r2.write h1 hp (o := .lst (ws.set k (.int (a + b)))) (d' := .lst (ds.set k (.int (a + b)))) (Reps.set .int k h9)
    have hkl : k < ws.length := by
      rw [h9.length]
      exact (List.getElem?_eq_some_iff.mp h2).1
    refine ⟨a, b, rfl, rfl, p0, ws, (k : Int), k, rfl, rfl, h8, ?_, k1 F2 _ σ _ (((g1.trans g2).any.trans g3).mono (by omega)) r3 p⟩
    unfold ixN
    rw [if_pos (by omega), if_pos (by omega)]
    simp
end
end DL
set_option maxRecDepth 100000
set_option maxHeartbeats 2000000
/-! DL10: dicts by data, a def's promise kept, __init__. -/
namespace DL
open PySem PySem.Spec PyProof.Rows L2 RZ

/-! ### d[k] = v, (a, b) in d -/
def putD {κ : Type} [DecidableEq κ] (ks : List (κ × Dat)) (k : κ) (d : Dat) : List (κ × Dat) :=
  if (ks.any fun kv => decide (kv.1 = k)) = true then ks.map (fun kv => if kv.1 = k then (kv.1, d) else kv) else ks ++ [(k, d)]
theorem any_key {κ : Type} [DecidableEq κ] {k : κ} : ∀ {vs : List (κ × V)} {ks : List (κ × Dat)}, vs.map (·.1) = ks.map (·.1) → (vs.any fun kv => decide (kv.1 = k)) = (ks.any fun kv => decide (kv.1 = k))
  | [], [], _ => rfl
  | [], _ :: _, h => by simp at h
  | _ :: _, [], h => by simp at h
  | v :: vs, d :: ks, h => by
    simp only [List.map_cons, List.cons.injEq] at h
    rw [List.any_cons, List.any_cons, any_key h.2, h.1]
theorem put_ok {κ : Type} [DecidableEq κ] {B : Option Addr} {F : Hp} {k : κ} {v : V} {d : Dat} (r : Rep B F v d) : ∀ {vs : List (κ × V)} {ks : List (κ × Dat)}, vs.map (·.1) = ks.map (·.1) → Reps B F (vs.map (·.2)) (ks.map (·.2)) →
    (putK vs k v).map (·.1) = (putD ks k d).map (·.1) ∧ Reps B F ((putK vs k v).map (·.2)) ((putD ks k d).map (·.2)) := by
  intro vs ks h hr
  unfold putK putD
  rw [any_key h]
  split
  · rename_i hany
    clear hany
    induction vs generalizing ks with
    | nil =>
      cases ks with
      | nil => exact ⟨rfl, .nil⟩
      | cons _ _ => simp at h
    | cons a vs ih =>
      cases ks with
      | nil => simp at h
      | cons b ks =>
        simp only [List.map_cons, List.cons.injEq] at h
        simp only [List.map_cons] at hr
        cases hr with
        | cons h1 h2 =>
          obtain ⟨i1, i2⟩ := ih h.2 h2
          simp only [List.map_cons, List.cons.injEq]
          rw [h.1]
          by_cases e : b.1 = k
          · rw [if_pos e, if_pos e]
            exact ⟨⟨rfl, i1⟩, .cons r i2⟩
          · rw [if_neg e, if_neg e]
            exact ⟨⟨h.1, i1⟩, .cons h1 i2⟩
  · rw [List.map_append, List.map_append, List.map_append, List.map_append, h]
    exact ⟨rfl, hr.append (.cons r .nil)⟩
theorem own_dct {A : Addr → Prop} {B : Option Addr} {F H : Hp} {σ : L2.St} {ε : Ev} {i : Nat} {ks : List (Key × Dat)} (r : Rs A B F H σ ε) (h : ε[i]? = some (.own (.dct ks))) : ∃ p vs, σ[i]? = some (some (.ref p)) ∧ H p = some (.dK vs) ∧ vs.map (·.1) = ks.map (·.1) ∧ Reps B F (vs.map (·.2)) (ks.map (·.2)) := by
  obtain ⟨p, h1, h2, w⟩ := r.own i _ h
  obtain ⟨o, ho, hc⟩ := w.con
  cases o with
  | dK vs => exact ⟨p, vs, h1, ho, hc.1, hc.2⟩
  | _ => exact hc.elim
theorem own_dtt {A : Addr → Prop} {B : Option Addr} {F H : Hp} {σ : L2.St} {ε : Ev} {i : Nat} {ks : List (List Key × Dat)} (r : Rs A B F H σ ε) (h : ε[i]? = some (.own (.dtt ks))) : ∃ p vs, σ[i]? = some (some (.ref p)) ∧ H p = some (.dT vs) ∧ vs.map (·.1) = ks.map (·.1) ∧ Reps B F (vs.map (·.2)) (ks.map (·.2)) := by
  obtain ⟨p, h1, h2, w⟩ := r.own i _ h
  obtain ⟨o, ho, hc⟩ := w.con
  cases o with
  | dT vs => exact ⟨p, vs, h1, ho, hc.1, hc.2⟩
  | _ => exact hc.elim
section
variable {X : Cx} {e a b o : Expr} {es : List Expr} {pos p px tpos : Pos} {x : Str} {c c1 c2 c3 i kt : Nat} {T Ta Tb Te Ti : TD} {U : TAD} {m : Md}
def sPutK (i : Nat) (Ti Te : TD) : TSD := fun E ε => Te ε fun z => (∃ ks, ε[i]? = some (.own (.dct ks))) ∧ Ti ε fun d => ∃ ks k, ε[i]? = some (.own (.dct ks)) ∧ keyD d = some k ∧ ks.length < 100000 ∧ E.nx (ε.set i (.own (.dct (putD ks k z))))
theorem sd_putK {ie : Expr} (hu : X.A.units + 1 < cLine) (hx : PE X (.Name x px) (tVar i)) (hi : PD .rep X c1 ie Ti) (he : PD .rep X c2 e Te) (hs : swapsWith e (some (.Subscript (.Name x px) ie tpos)) pos.line X.env = pure false := by rfl) :
    SD X (c2 + c1) (.Assign [.Subscript (.Name x px) ie tpos] e pos) (sPutK i Ti Te) :=
  ps_weak (ps_dput hu hx hi he hs) fun D σ H ⟨A, B, F, ε, E, n, r, bx, hn, t, k1, _⟩ =>
    ⟨A, B, F, ε, _, n, r, bx, by omega, t, fun v F1 H1 z g1 q1 ⟨⟨ds0, h0⟩, t1⟩ => by
      have r1 := r.gr g1
      obtain ⟨p0, vs0, hp, hH, _⟩ := own_dct r1 h0
      refine ⟨_, hp, A, B, F1, ε, _, n + c2, r1, g1.box n bx, by omega, t1, fun iv F2 H2 d g2 q2 ⟨ks, k, h2, h3, h4, p⟩ => ?_⟩
      have r2 := r1.gr g2
      obtain ⟨p1, vs, h5, h6, h7, h8⟩ := own_dct r2 h2
      rw [hp] at h5
      cases h5
      have hk := keyD_rep q2 h3
      subst hk
      have := congrArg List.length h7
      rw [List.length_map, List.length_map] at this
      obtain ⟨i1, i2⟩ := put_ok (k := k) (Rep.mono g2.ex q1) h7 h8
      obtain ⟨r3, g3⟩ := r2.write h2 hp (o := .dK (putK vs k v)) (d' := .dct (putD ks k z)) ⟨i1, i2⟩
      exact ⟨p0, _, rfl, DPut.k h6 (sz5lt (by omega)), k1 F2 _ σ _ (((g1.trans g2).any.trans g3).mono (by omega)) r3 p⟩⟩
def sPutT (i : Nat) (Ui : TAD) (Te : TD) : TSD := fun E ε => Te ε fun z => (∃ ks, ε[i]? = some (.own (.dtt ks))) ∧ Ui ε fun ds => ∃ ks k, ε[i]? = some (.own (.dtt ks)) ∧ ds.mapM keyD = some k ∧ ds.length ≤ 1000 ∧ ks.length < 100000 ∧ E.nx (ε.set i (.own (.dtt (putD ks k z))))
theorem sd_putT {pt : Pos} (hu : X.A.units + 1 < cLine) (hx : PE X (.Name x px) (tVar i)) (hi : PAD X c1 es U) (he : PD .rep X c2 e Te) (hs : swapsWith e (some (.Subscript (.Name x px) (.Tuple es kt pt) tpos)) pos.line X.env = pure false := by rfl) :
    SD X (c2 + c1) (.Assign [.Subscript (.Name x px) (.Tuple es kt pt) tpos] e pos) (sPutT i U Te) :=
  ps_weak (ps_dput hu hx (pe_tup hi) he hs) fun D σ H ⟨A, B, F, ε, E, n, r, bx, hn, t, k1, _⟩ =>
    ⟨A, B, F, ε, _, n, r, bx, by omega, t, fun v F1 H1 z g1 q1 ⟨⟨ds0, h0⟩, t1⟩ => by
      have r1 := r.gr g1
      obtain ⟨p0, vs0, hp, hH, _⟩ := own_dtt r1 h0
      refine ⟨_, hp, A, B, F1, ε, _, n + c2, r1, g1.box n bx, by omega, t1, fun ws F2 H2 ds g2 q2 ⟨ks, k, h2, h3, h3', h4, p⟩ => ?_⟩
      refine ⟨by rw [q2.length]; exact sz5 (by omega), fun pt hpt => ?_⟩
      have g0 : Gr NoA B 0 F2 H2 F2 (upd H2 pt (.tup ws)) := Gr.alloc0 ((r1.gr g2).ex) hpt
      have r2 := (r1.gr g2).gr g0
      obtain ⟨p1, vs, h5, h6, h7, h8⟩ := own_dtt r2 h2
      rw [hp] at h5
      cases h5
      have hk := keysD_rep q2 h3
      subst hk
      have := congrArg List.length h7
      rw [List.length_map, List.length_map] at this
      obtain ⟨i1, i2⟩ := put_ok (k := k) (Rep.mono g2.ex q1) h7 h8
      obtain ⟨r3, g3⟩ := r2.write h2 hp (o := .dT (putK vs k v)) (d' := .dtt (putD ks k z)) ⟨i1, i2⟩
      exact ⟨p0, _, rfl, DPut.t h6 upd_same (sz5lt (by omega)), k1 F2 _ σ _ ((((g1.trans g2).trans g0).any.trans g3).mono (by omega)) r3 p⟩⟩
def dInT (neg : Bool) (U : TAD) (Td : TD) : TD := fun ε P => U ε fun ds => ∃ k, ds.mapM keyD = some k ∧ ds.length ≤ 1000 ∧ Td ε fun d => ∃ ks, d = .dtt ks ∧ P (.bl (neg != (lookD ks k).isSome))
theorem in_run {neg : Bool} {td : TE} (hd : td = lift .sh c2 Ta) : ∀ σ H Q, lift .rep (c1 + c2) (dInT neg U Ta) σ H Q → (tTup (liftA c1 U)) σ H fun y H1 => td σ H1 fun x H2 => ∃ a o, x = .ref a ∧ DGet H2 a y o ∧ Q (.bl (neg != o.isSome)) H2 := fun σ H Q ⟨A, B, F, ε, P, n, r, bx, hn, t, k⟩ => by
  subst hd
  refine ⟨A, B, F, ε, _, n, r, bx, by omega, t, fun ws F1 H1 ds g1 q1 ⟨kk, h1, h1', t1⟩ => ⟨by rw [q1.length]; exact sz5 (by omega), fun pt hpt => ?_⟩⟩
  have hk := keysD_rep q1 h1
  subst hk
  have g0 : Gr NoA B 0 F1 H1 F1 (upd H1 pt (.tup (kk.map kV))) := Gr.alloc0 ((r.gr g1).ex) hpt
  have g10 := g1.trans g0
  refine ⟨A, B, F1, ε, _, n + (c1 + 0), r.gr g10, g10.box n bx, by omega, t1, fun v F2 H2 d g2 q2 ⟨ks, e1, p⟩ => ?_⟩
  subst e1
  obtain ⟨a, vs, rfl, h3, h4, h5⟩ := sh_dtt g2.sub q2
  have hpB : B ≠ some pt := fun e => by
    obtain ⟨_, _, o, ho⟩ := (r.gr g1).bx pt e
    rw [hpt] at ho
    cases ho
  refine ⟨a, _, rfl, DGet.t h3 (g2.keep pt _ upd_same hpB (fun z => z)), ?_⟩
  rw [look_isSome h4 h5]
  exact k _ F2 H2 _ ((g10.trans g2).mono (by omega)) .bl p
theorem pd_inT {pt : Pos} (hu : X.A.units + 1 < cLine) (hi : PAD X c1 es U) (ho : PD .sh X c2 o Ta) (h1 : behindInMarks .In o = false := by first | exact nobehind _ (by decide) (by decide) | rfl) : PD .rep X (c1 + c2) (.Compare (.Tuple es kt pt) [.In] [o] pos) (dInT false U Ta) :=
  pe_weak (pe_cmp (pc_din hu (pe_tup hi) ho) h1) fun σ H Q h => by
    have := in_run (neg := false) rfl σ H Q h
    simp only [Bool.false_bne] at this
    exact this
theorem pd_ninT {pt : Pos} (hu : X.A.units + 1 < cLine) (hi : PAD X c1 es U) (ho : PD .sh X c2 o Ta) (h1 : behindInMarks .NotIn o = false := by first | exact nobehind _ (by decide) (by decide) | rfl) : PD .rep X (c1 + c2) (.Compare (.Tuple es kt pt) [.NotIn] [o] pos) (dInT true U Ta) :=
  pe_weak (pe_cmp (pc_dnotin hu (pe_tup hi) ho) h1) fun σ H Q h => by
    have := in_run (neg := true) rfl σ H Q h
    simp only [Bool.true_bne] at this
    exact this
theorem ptd_ninT {pt : Pos} (hu : X.A.units + 1 < cLine) (hi : PAD X c1 es U) (ho : PD .sh X c2 o Ta) (h1 : behindInMarks .NotIn o = false := by first | exact nobehind _ (by decide) (by decide) | rfl) : PTD X (c1 + c2) (.Compare (.Tuple es kt pt) [.NotIn] [o] pos) (tV (dInT true U Ta)) :=
  pt_weak (pt_cmp (pc_dnotin hu (pe_tup hi) ho) h1) fun σ H Q ⟨A, B, F, ε, P, n, r, bx, hn, t, k⟩ => by
    have := in_run (neg := true) rfl σ H (fun y H1 => ∃ b, y = .bl b ∧ Q b H1) ⟨A, B, F, ε, _, n, r, bx, hn, t, fun v F' H' d g q ⟨b, e, p⟩ => by
      subst e
      cases q
      exact ⟨b, rfl, k b F' H' g p⟩⟩
    simp only [Bool.true_bne] at this
    exact this

/-! ### name op= int -/
def sAug (i : Nat) (Te : TD) (f : Int → Int → Int) : TSD := fun E ε => ∃ a, ε[i]? = some (.val (.int a)) ∧ Te ε fun z => ∃ b, z = .int b ∧ E.nx (ε.set i (.val (.int (f a b))))
theorem sd_aug {op : Operator} {f : Int → Int → Int} {pos' : Pos} (hN : X.N.Nodup) (hi : X.N[i]? = some x) (hx : Loc X.env.scope x) (he : PD .rep X c e Te) (ho : PIp X op (ipI f)) (hf : X.fn x = true ∨ X.env.scope.names.lookup x = some .local := by first | exact .inl rfl | exact .inr rfl | assumption) :
    SD X c (.AugAssign (.Name x pos') op e pos) (sAug i Te f) := ps_weak (ps_aug hN hi hx he ho hf) fun D σ H ⟨A, B, F, ε, E, n, r, bx, hn, ⟨a, h0, t⟩, k1, _⟩ => by
  obtain ⟨v, h1, h2⟩ := r.val i _ h0
  cases h2
  exact ⟨_, h1, A, B, F, ε, _, n, r, bx, hn, t, fun v F1 H1 z g q ⟨b, e1, p⟩ => by
    subst e1
    cases q
    exact ⟨a, b, rfl, rfl, k1 F1 H1 _ _ g.any ((r.gr g).setVal .int) p⟩⟩
end

/-! ### a def keeps its promise -/
def startD (N : List Str) (ds : List Dat) : Ev := ds.map .val ++ List.replicate (N.length - ds.length) .off
theorem start_val {B : Option Addr} {F : Hp} : ∀ {vs : List V} {ds : List Dat}, Reps B F vs ds → ∀ (n i : Nat) (d : Dat), (ds.map Sl.val ++ List.replicate n .off)[i]? = some (.val d) → ∃ v, (vs.map some ++ List.replicate n none)[i]? = some (some v) ∧ Rep B F v d
  | _, _, .nil, n, i, d, h => by
    simp only [List.map_nil, List.nil_append, List.getElem?_replicate] at h
    split at h <;> cases h
  | _, _, .cons r t, n, 0, d, h => by
    simp only [List.map_cons, List.cons_append, List.getElem?_cons_zero, Option.some.injEq, Sl.val.injEq] at h
    subst h
    exact ⟨_, rfl, r⟩
  | _, _, .cons r t, n, i + 1, d, h => by
    simp only [List.map_cons, List.cons_append, List.getElem?_cons_succ] at h ⊢
    exact start_val t n i d h
theorem start_no (ds : List Dat) (n i : Nat) {s : Sl} (h : (ds.map Sl.val ++ List.replicate n .off)[i]? = some s) : s = .off ∨ ∃ d, s = .val d := by
  have := List.mem_of_getElem? h
  rw [List.mem_append] at this
  rcases this with h | h
  · obtain ⟨d, _, rfl⟩ := List.mem_map.mp h
    exact .inr ⟨d, rfl⟩
  · exact .inl (List.eq_of_mem_replicate h)
theorem rs_start {B : Option Addr} {F H : Hp} {N : List Str} {vs : List V} {ds : List Dat} (ex : Ex F H) (bx : Bx B F H) (r : Reps B F vs ds) : Rs (fun a => H a = none) B F H (L2.start N vs) (startD N ds) where
  ex := ex
  len := by
    unfold startD L2.start
    simp [r.length]
  val := fun i d h => by
    unfold L2.start
    rw [r.length]
    exact start_val r _ i d h
  own := fun i d h => by
    rcases start_no _ _ _ h with e | ⟨_, e⟩ <;> cases e
  sep := fun i j d e p h => by
    rcases start_no _ _ _ h with e | ⟨_, e⟩ <;> cases e
  bx := fun b hb => by
    obtain ⟨h1, o, h2⟩ := bx b hb
    exact ⟨h1, fun e => (by rw [h2] at e; cases e), o, h2⟩
  new := fun a h => h
  raw := fun i v h => by
    rcases start_no _ _ _ h with e | ⟨_, e⟩ <;> cases e
theorem Gr.toNo {B : Option Addr} {c : Nat} {F H F' H' : Hp} (g : Gr (fun a => H a = none) B c F H F' H') : Gr NoA B c F H F' H' where
  ex := g.ex
  sub := g.sub
  new := fun a o h => by
    rcases g.new a o h with z | z | z
    · exact .inl z
    · exact .inr (.inl z)
    · exact .inr (.inl z)
  keep := fun a o h nb _ => g.keep a o h nb fun z => by rw [h] at z; cases z
  there := g.there
  box := g.box
section
variable {P : Program} {w : World} {K : PySem.W.Frag} {mg : Str → Option Value} {base : Heap} {x qual : Str} {params : Arguments} {body : List Stmt} {scope : Scope} {f : Addr} {fd : FuncData}
theorem okD {N ps : List Str} {k c : Nat} {S : List Dat → (Dat → Prop) → Prop} (F : FunD K x qual params body scope [] [] f fd) (Sc : FnScope N ps scope) (len : ∀ ds Q, S ds Q → ds.length = ps.length)
    (hbody : ∀ (cdv : Value) (A : Around) (outer : List Env) (s : Shared) (H : Hp) (E : XK), Room k (A.deeper (envOfC qual scope s.heap.objs.size f cdv)) →
      ∃ T, SDs (cxOf CX0 P w K mg base N qual scope f cdv A outer s H E).nox c body T ∧ ∀ ds Q, S ds Q → T { nx := fun _ => Q .non, rt := Q } (startD N ds)) : FnOk P w K mg base CX0 (k + 1) f fd ps (spF c S) := by
  refine F.ok Sc (fun vs H Q E ⟨B, F, ds, P, n, ex, bx, box, hn, r, hS, kk⟩ => r.length.trans (len ds P hS)) fun cdv A outer s H vs Q E hr ⟨B, F', ds, P', n, ex, bx, box, hn, r, hS, kk⟩ => ?_
  obtain ⟨T, d, hT⟩ := hbody cdv A outer s H E hr
  refine ⟨_, PSs.nox d, fun a => H a = none, B, F', startD N ds, _, n, rs_start ex bx r, box, hn, hT ds P' hS, fun F2 H2 σ' ε' g r2 p => ?_, fun F2 H2 σ' ε' g r2 p => p.elim, fun F2 H2 σ' ε' g r2 p => p.elim, fun v F2 H2 d g q p => ?_⟩
  · exact kk .non F2 H2 .non g.toNo .non p
  · exact kk v F2 H2 d g.toNo q p
end
end DL
set_option maxRecDepth 100000
set_option maxHeartbeats 2000000
/-! DL11: __init__ by data, comprehensions of two clauses. -/
namespace DL
open PySem PySem.Spec PyProof.Rows L2 RZ

/-! ### self.f = e -/
def putFD (f : Str) (v : Dat) : List (Str × Dat) → List (Str × Dat)
  | [] => [(f, v)]
  | (g, x) :: r => if g = f then (g, v) :: r else (g, x) :: putFD f v r
theorem putF_ok {B : Option Addr} {F : Hp} {f : Str} {v : V} {d : Dat} (r : Rep B F v d) : ∀ {fs : List (Str × V)} {xs : List (Str × Dat)}, fs.map (·.1) = xs.map (·.1) → Reps B F (fs.map (·.2)) (xs.map (·.2)) →
    (putF f v fs).map (·.1) = (putFD f d xs).map (·.1) ∧ Reps B F ((putF f v fs).map (·.2)) ((putFD f d xs).map (·.2))
  | [], [], _, _ => ⟨rfl, .cons r .nil⟩
  | [], _ :: _, h, _ => by simp at h
  | _ :: _, [], h, _ => by simp at h
  | (g, x) :: fs, (g', x') :: xs, h, hr => by
    simp only [List.map_cons, List.cons.injEq] at h
    obtain ⟨rfl, h⟩ := h
    simp only [List.map_cons] at hr
    cases hr with
    | cons h1 h2 =>
      obtain ⟨i1, i2⟩ := putF_ok (f := f) r h h2
      unfold putF putFD
      by_cases e : g = f
      · rw [if_pos e, if_pos e]
        exact ⟨by simp only [List.map_cons, h], .cons r h2⟩
      · rw [if_neg e, if_neg e]
        exact ⟨by simp only [List.map_cons, i1], .cons h1 i2⟩
/-- the state within __init__: self's object is nobody's yet -/
abbrev TID0 := (List (Str × Dat) → Prop) → List (Str × Dat) → Ev → Prop
def liftN (C : Addr) (c : Nat) (T : TID0) : TS := fun D σ H => ∃ (A : Addr → Prop) (B : Option Addr) (F : Hp) (ε : Ev) (P : List (Str × Dat) → Prop) (n : Nat) (p dx : Addr) (fs : List (Str × V)) (xs : List (Str × Dat)),
  Rs A B F H σ ε ∧ BoxAt B H n ∧ n + c ≤ CAP ∧ ε[0]? = some (.raw (.ref p)) ∧ ¬ A p ∧ F p = none ∧ B ≠ some p ∧ H p = some (.ins C dx fs) ∧ fs.map (·.1) = xs.map (·.1) ∧ Reps B F (fs.map (·.2)) (xs.map (·.2)) ∧ T P xs ε ∧
  ∀ F' H' σ' dx' fs' xs', Gr (fun a => A a ∨ a = p) B c F H F' H' → F' p = none → H' p = some (.ins C dx' fs') → fs'.map (·.1) = xs'.map (·.1) → Reps B F' (fs'.map (·.2)) (xs'.map (·.2)) → P xs' → D.nx σ' H'
def SIs (C : Addr) (X : Cx) (c : Nat) (st : List Stmt) (T : TID0) : Prop := PSs X st (liftN C c T)
section
variable {X : Cx} {e a b o : Expr} {es : List Expr} {pos p px tpos : Pos} {x f : Str} {c c1 c2 c3 i kt : Nat} {T Ta Tb Te Ti : TD} {U : TAD} {m : Md} {C : Addr} {st : Stmt} {rest : List Stmt} {Ts : TSD} {Tn : TID0}
theorem free_keep {A : Addr → Prop} {B : Option Addr} {c : Nat} {F H F' H' : Hp} {p : Addr} {o : HO} (g : Gr A B c F H F' H') (hF : F p = none) (hA : ¬ A p) (hp : H p = some o) : F' p = none := by
  cases q : F' p with
  | none => rfl
  | some u =>
    rcases g.new p u q with z | z | z
    · rw [hF] at z; cases z
    · rw [hp] at z; cases z
    · exact (hA z).elim
theorem si_nil : SIs C X 0 [] (fun P xs _ => P xs) := pss_weak pss_nil fun D σ H ⟨A, B, F, ε, P, n, p, dx, fs, xs, r, bx, hn, h0, hA, hF, hB, hp, hk, hv, t, k⟩ =>
  k F H σ dx fs xs (Gr.refl r.ex) hF hp hk hv t
theorem si_chk (h : SD X c1 st Ts) (h2 : SIs C X c2 rest Tn) : SIs C X (c1 + c2) (st :: rest) (fun P xs ε => Ts { nx := fun ε' => ε'[0]? = ε[0]? ∧ Tn P xs ε', rt := fun _ => False } ε) :=
  pss_weak (pss_cons h h2) fun D σ H ⟨A, B, F, ε, P, n, p, dx, fs, xs, r, bx, hn, h0, hA, hF, hB, hp, hk, hv, t, k⟩ =>
    ⟨A, B, F, ε, _, n, r, bx, by omega, t, fun F1 H1 σ1 ε1 g1 r1 ⟨e1, t1⟩ =>
      ⟨A, B, F1, ε1, P, n + c1, p, dx, fs, xs, r1, g1.box n bx, by omega, e1.trans h0, hA, free_keep g1 hF hA hp, hB, g1.keep p _ hp hB hA, hk, hv.mono g1.ex, t1, fun F' H' σ' dx' fs' xs' g => k F' H' σ' dx' fs' xs' ((g1.toA fun _ z => .inl z).trans g)⟩,
      fun _ _ _ _ _ _ z => z.elim, fun _ _ _ _ _ _ z => z.elim, fun _ _ _ _ _ _ z => z.elim⟩
theorem si_set {pos' : Pos} (cl : Cls X.K C) (na : NoAttr X.K C f) (hx : PE X (.Name x px) (tVar 0)) (he : PD .rep X c1 e Te) (h2 : SIs C X c2 rest Tn) (hs : swapsWith e (some (.Attribute (.Name x px) f pos')) pos.line X.env = pure false := by rfl) :
    SIs C X (c1 + c2) (.Assign [.Attribute (.Name x px) f pos'] e pos :: rest) (fun P xs ε => Te ε fun z => xs.length < 1000 ∧ Tn P (putFD f z xs) ε) :=
  pss_weak (pss_cons (ps_fld hx he hs) h2) fun D σ H ⟨A, B, F, ε, P, n, p, dx, fs, xs, r, bx, hn, h0, hA, hF, hB, hp, hk, hv, t, k⟩ =>
    ⟨A, B, F, ε, _, n, r, bx, by omega, t, fun v F1 H1 z g1 q1 ⟨hl, t1⟩ => by
      have r1 := r.gr g1
      have hp1 : H1 p = some (.ins C dx fs) := g1.keep p _ hp hB (fun z => z)
      have hF1 : F1 p = none := free_keep g1 hF (fun z => z) hp
      have := congrArg List.length hk
      rw [List.length_map, List.length_map] at this
      obtain ⟨i1, i2⟩ := putF_ok (f := f) q1 hk (hv.mono g1.ex)
      have g2 : Gr (fun a => A a ∨ a = p) B 0 F1 H1 F1 (upd H1 p (.ins C dx (putF f v fs))) := Gr.write r1.ex (.inr rfl) hF1 hB
      refine ⟨.ref p, r.raw 0 _ h0, p, C, dx, fs, rfl, hp1, cl, na, by omega, ?_⟩
      refine ⟨A, B, F1, ε, P, n + c1, p, dx, putF f v fs, putFD f z xs, ?_, ?_, by omega, h0, hA, hF1, hB, upd_same, i1, i2, t1, fun F' H' σ' dx' fs' xs' g => k F' H' σ' dx' fs' xs' (((g1.any.trans g2).trans g).mono (by omega))⟩
      · refine ⟨g2.sub, r1.len, r1.val, fun j e q => ?_, r1.sep, fun b hb => ?_, fun a ha => r1.new a ?_, r1.raw⟩
        · obtain ⟨p2, h3, h4, h5⟩ := r1.own j e q
          refine ⟨p2, h3, h4, h5.out, h5.nb, ?_⟩
          obtain ⟨o2, h6, h7⟩ := h5.con
          have ne : p2 ≠ p := fun z => by
            subst z
            exact hA h4
          exact ⟨o2, by rw [upd_ne ne]; exact h6, h7⟩
        · obtain ⟨h3, h4, u, h5⟩ := r1.bx b hb
          exact ⟨h3, h4, u, by rw [upd_ne (show b ≠ p from fun z => hB (by rw [hb, z]))]; exact h5⟩
        · by_cases z : a = p
          · subst z; rw [upd_same] at ha; cases ha
          · rwa [upd_ne z] at ha
      · exact g2.box _ (g1.box n bx) |>.mono (by omega)⟩
end
def startO (p : Addr) (N : List Str) (ds : List Dat) : Ev := .raw (.ref p) :: (ds.map .val ++ List.replicate (N.length - (ds.length + 1)) .off)
theorem rs_startO {B : Option Addr} {F H : Hp} {N : List Str} {p : Addr} {vs : List V} {ds : List Dat} (ex : Ex F H) (bx : Bx B F H) (r : Reps B F vs ds) : Rs (fun a => H a = none) B F H (L2.start N (.ref p :: vs)) (startO p N ds) where
  ex := ex
  len := by
    unfold startO L2.start
    simp [r.length]
  val := fun i d h => by
    cases i with
    | zero => unfold startO at h; cases h
    | succ i =>
      unfold startO at h
      unfold L2.start
      rw [List.getElem?_cons_succ] at h
      rw [List.map_cons, List.cons_append, List.getElem?_cons_succ, List.length_cons, r.length]
      exact start_val r _ i d h
  own := fun i d h => by
    cases i with
    | zero => unfold startO at h; cases h
    | succ i =>
      unfold startO at h
      rw [List.getElem?_cons_succ] at h
      rcases start_no _ _ _ h with e | ⟨_, e⟩ <;> cases e
  sep := fun i j d e p h => by
    cases i with
    | zero => unfold startO at h; cases h
    | succ i =>
      unfold startO at h
      rw [List.getElem?_cons_succ] at h
      rcases start_no _ _ _ h with e | ⟨_, e⟩ <;> cases e
  bx := fun b hb => by
    obtain ⟨h1, o, h2⟩ := bx b hb
    exact ⟨h1, fun e => (by rw [h2] at e; cases e), o, h2⟩
  new := fun a h => h
  raw := fun i v h => by
    cases i with
    | zero =>
      unfold startO at h
      cases h
      rfl
    | succ i =>
      unfold startO at h
      rw [List.getElem?_cons_succ] at h
      rcases start_no _ _ _ h with e | ⟨_, e⟩ <;> cases e
section
variable {P : Program} {w : World} {K : PySem.W.Frag} {mg : Str → Option Value} {base : Heap} {x qual : Str} {params : Arguments} {body : List Stmt} {scope : Scope} {f C : Addr} {fd : FuncData}
theorem okI {N ps : List Str} {k c : Nat} {S : List Dat → (List (Str × Dat) → Prop) → Prop} (F : FunD K x qual params body scope [] [] f fd) (Sc : FnScope N ps scope) (len : ∀ ds Q, S ds Q → ds.length + 1 = ps.length)
    (hbody : ∀ (cdv : Value) (A : Around) (outer : List Env) (s : Shared) (H : Hp) (E : XK), Room k (A.deeper (envOfC qual scope s.heap.objs.size f cdv)) →
      ∃ T, SIs C (cxOf CX0 P w K mg base N qual scope f cdv A outer s H E).nox c body T ∧ ∀ ds Q p, S ds Q → T Q [] (startO p N ds)) : FnOk P w K mg base CX0 (k + 1) f fd ps (spI c C S) := by
  refine F.ok Sc (fun vs H Q E ⟨B, F, p, dx, vs', ds, P, n, e1, hp, hF, hB, ex, bx, box, hn, r, hS, kk⟩ => ?_) fun cdv A outer s H vs Q E hr ⟨B, F', p, dx, vs', ds, P', n, e1, hp, hF, hB, ex, bx, box, hn, r, hS, kk⟩ => ?_
  · subst e1
    rw [List.length_cons, r.length]
    exact len ds P hS
  obtain ⟨T, d, hT⟩ := hbody cdv A outer s H E hr
  subst e1
  refine ⟨_, PSs.nox d, fun a => H a = none, B, F', startO p N ds, P', n, p, dx, [], [], rs_startO ex bx r, box, hn, rfl, (show ¬ H p = none by rw [hp]; exact fun z => nomatch z), hF, hB, hp, rfl, .nil, hT ds P' p hS, fun F2 H2 σ' dx' fs' xs' g hF2 hp2 hk hv q => ?_⟩
  refine kk F2 H2 dx' fs' xs' ⟨g.ex, g.sub, fun a o h => ?_, fun a o h nb na => g.keep a o h nb fun z => ?_, g.there, g.box⟩ hF2 hp2 hk hv q
  · rcases g.new a o h with z | z | z | z
    · exact .inl z
    · exact .inr (.inl z)
    · exact .inr (.inl z)
    · exact .inr (.inr z)
  · rcases z with z | z
    · rw [h] at z; cases z
    · exact na z
end
end DL
set_option maxRecDepth 100000
set_option maxHeartbeats 2000000
/-! DL12: comprehensions of two clauses. -/
namespace DL
open PySem PySem.Spec PyProof.Rows L2 RZ
section
variable {w w1 : Bool} {X : Cx} {tg iter tg1 iter1 elt : Expr} {pos : Pos} {ci : Nat} {Ti Ti1 : TID} {G G1 : GD} {Tt Tt1 : TTD} {Te : TD} {is is1 : List Nat}
def dLc2 (Ti : TID) (G : GD) (Tt : TTD) (Ti1 : TID) (G1 : GD) (Tt1 : TTD) (Te : TD) (vs vs1 : List Nat) : TD := fun ε P => Ti ε fun ds => ds.length ≤ 1024 ∧ ∃ Iv : Nat → List Dat → Prop, Iv 0 [] ∧
  (∀ i d acc, ds[i]? = some d → Iv i acc → G d (wipeD ε vs) fun ε2 => Tt ε2 fun b => if b = true then Ti1 ε2 fun es => es.length ≤ 1024 ∧ ∃ Iv1 : Nat → List Dat → Prop, Iv1 0 acc ∧
    (∀ j e acc1, es[j]? = some e → Iv1 j acc1 → G1 e (wipeD ε2 vs1) fun ε3 => Tt1 ε3 fun b => if b = true then Te ε3 fun y => Iv1 (j + 1) (acc1 ++ [y]) else Iv1 (j + 1) acc1) ∧ ∀ acc1, Iv1 es.length acc1 → Iv (i + 1) acc1 else Iv (i + 1) acc) ∧ ∀ acc, Iv ds.length acc → P (.lst acc)
theorem keepD {B : Option Addr} {c : Nat} {F H F' H' : Hp} {D : Addr} {o : HO} (g : Gr NoA B c F H F' H') (hF : F D = none) (hD : H D = some o) (nB : B ≠ some D) : H' D = some o ∧ F' D = none :=
  ⟨g.keep D _ hD nB (fun z => z), free_keep g hF (fun z => z) hD⟩
theorem Rs.grD {A : Addr → Prop} {B : Option Addr} {c : Nat} {F H F' H' : Hp} {D : Addr} {σ : L2.St} {ε : Ev} (r : Rs A B F H σ ε) (hA : ¬ A D) (hB : B ≠ some D) (g : Gr (fun a => a = D) B c F H F' H') : Rs A B F' H' σ ε where
  ex := g.sub
  len := r.len
  val := fun i d e => by
    obtain ⟨v, h1, h2⟩ := r.val i d e
    exact ⟨v, h1, h2.mono g.ex⟩
  own := fun i d e => by
    obtain ⟨p, h1, h2, w⟩ := r.own i d e
    have ne : ¬ p = D := fun z => hA (by rw [← z]; exact h2)
    obtain ⟨o, h3, h4⟩ := w.con
    exact ⟨p, h1, h2, free_keep g w.out ne h3, w.nb, o, g.keep p o h3 w.nb ne, h4.mono g.ex⟩
  sep := r.sep
  bx := fun b hb => by
    obtain ⟨h1, h2, o, h3⟩ := r.bx b hb
    have ne : ¬ b = D := fun z => hB (by rw [hb, z])
    exact ⟨free_keep g h1 ne h3, h2, g.there b o h3⟩
  new := fun a h => r.new a (g.free h)
  raw := r.raw
/-- D stands apart -/
theorem Rs.apart {A : Addr → Prop} {B : Option Addr} {F H : Hp} {D : Addr} {o : HO} {σ : L2.St} {ε : Ev} (r : Rs A B F H σ ε) (hD : H D = none) : Rs (fun a => A a ∧ a ≠ D) B F (upd H D o) σ ε := by
  have r' := r.gr (Gr.alloc0 (o := o) r.ex hD)
  exact { r' with
    own := fun i d e => by
      obtain ⟨p, h1, h2, w⟩ := r.own i d e
      obtain ⟨o, h3, h4⟩ := w.con
      have ne : p ≠ D := fun z => by rw [z, hD] at h3; cases h3
      exact ⟨p, h1, ⟨h2, ne⟩, w.out, w.nb, o, by rw [upd_ne ne]; exact h3, h4⟩
    bx := fun b hb => by
      obtain ⟨h1, h2, h3⟩ := r'.bx b hb
      exact ⟨h1, fun z => h2 z.1, h3⟩
    new := fun a h => ⟨r'.new a h, fun z => by rw [z, upd_same] at h; cases h⟩ }
theorem Gr.noD {B : Option Addr} {c : Nat} {F H F' H' : Hp} {D : Addr} {o : HO} (g : Gr (fun a => a = D) B c F (upd H D o) F' H') (hD : H D = none) (hB : B ≠ some D) : Gr NoA B c F H F' H' where
  ex := g.ex
  sub := g.sub
  new := fun a u h => by
    rcases g.new a u h with z | z | z
    · exact .inl z
    · refine .inr (.inl ?_)
      by_cases e : a = D
      · rw [e]; exact hD
      · rwa [upd_ne e] at z
    · exact .inr (.inl (by rw [z]; exact hD))
  keep := fun a u h nb _ => by
    have ne : a ≠ D := ne_of_none h hD
    exact g.keep a u (by rw [upd_ne ne]; exact h) nb ne
  there := fun a u h => by
    have ne : a ≠ D := ne_of_none h hD
    exact g.there a u (by rw [upd_ne ne]; exact h)
  box := fun n h => g.box n fun b hb => by
    obtain ⟨vs, h1, h2⟩ := h b hb
    have ne : b ≠ D := fun z => hB (by rw [hb, z])
    exact ⟨vs, by rw [upd_ne ne]; exact h1, h2⟩
theorem lc2_run {vs vs1 : List Nat} (his : ∀ i ∈ is, i ∈ vs) (his1 : ∀ i ∈ is1, i ∈ vs1) : ∀ σ H Q, lift .fr ci (dLc2 Ti G Tt Ti1 G1 Tt1 Te vs vs1) σ H Q → tLc2 (liftI w ci Ti) (liftG w is G) (liftT 0 Tt) (liftI w1 0 Ti1) (liftG w1 is1 G1) (liftT 0 Tt1) (lift .rep 0 Te) vs vs1 σ H Q := fun σ H Q ⟨A, B, F, ε, P, n, r, bx, hn, t, k⟩ => by
  refine ⟨A, B, F, ε, _, n, r, bx, hn, t, fun J F1 H1 ds g1 wk ⟨hl, Iv, h0, hs, hd⟩ D hD => ?_⟩
  have r1 := r.gr g1
  have nB : B ≠ some D := fun e => by
    obtain ⟨_, _, o, ho⟩ := r1.bx D e
    rw [hD] at ho
    cases ho
  have rD : Rs (fun a => A a ∧ a ≠ D) B F1 (upd H1 D (.lst [])) σ ε := r1.apart hD
  have nA : ¬ (A D ∧ D ≠ D) := fun z => z.2 rfl
  have bD : BoxAt B (upd H1 D (.lst [])) (n + ci) := (Gr.alloc0 (A := NoA) r1.ex hD).box _ (g1.box n bx)
  let Pv : Nat → Hp → Prop := fun i H' => ∃ Fi vacc acc, Gr (fun a => a = D) B 0 F1 (upd H1 D (.lst [])) Fi H' ∧ Fi D = none ∧ H' D = some (.lst vacc) ∧ Reps B Fi vacc acc ∧ Iv i acc ∧ acc.length ≤ i * 1024
  refine ⟨fun i m H' => m = ds.length - i ∧ i ≤ ds.length ∧ Pv i H', ⟨ds.length, by simp, Nat.zero_le _, F1, [], [], Gr.refl rD.ex, r1.ex.back hD, upd_same, .nil, h0, Nat.zero_le _⟩, ?_⟩
  rintro i m Hi ⟨rfl, hi, Fi, vacc, acc, g, hF, hDi, ra, inv, la⟩
  have ri := rD.grD nA nB g
  have exi : Ex F1 Hi := g.ex.trans g.sub
  rcases Nat.lt_or_ge i ds.length with hlt | hge
  · refine .inr ⟨wk.goes i Hi hlt exi, Pv (i + 1), fun H' p => ⟨ds.length - (i + 1), by omega, rfl, hlt, p⟩, fun x H' y0 => ?_⟩
    have y := wk.yields i Hi x H' hlt exi y0
    obtain ⟨d, F2, hd2, g2, rd, ex2⟩ := yd_step ri g.ex y
    have r2 := (ri.gr g2).wipe vs
    refine ⟨_, B, F2, wipeD ε vs, d, _, r2, rd, hs i d acc hd2 inv, fun σ3 ε3 r3 w3 t3 => ⟨by rw [w3 vs his, wipe_wipe], ?_⟩⟩
    have g02 : Gr (fun a => a = D) B 0 F1 (upd H1 D (.lst [])) F2 H' := g.trans g2.any
    obtain ⟨hD2, hF2⟩ := keepD g2 hF hDi nB
    refine ⟨_, B, F2, ε3, _, n + ci, r3, g02.box _ bD, by omega, t3, fun b F3 H3 g3 t4 => ?_⟩
    obtain ⟨hD3, hF3⟩ := keepD g3 hF2 hD2 nB
    have g03 : Gr (fun a => a = D) B 0 F1 (upd H1 D (.lst [])) F3 H3 := g02.trans g3.any
    cases b with
    | false => exact ⟨F3, vacc, acc, g03, hF3, hD3, (ra.mono g2.ex).mono g3.ex, t4, by omega⟩
    | true =>
      show liftI w1 0 Ti1 σ3 H3 _
      refine ⟨_, B, F3, ε3, _, n + ci, r3.gr g3, g03.box _ bD, by omega, t4, fun J1 F4 H4 es g4 wk1 ⟨hl1, Iv1, h01, hs1, hd1⟩ => ?_⟩
      obtain ⟨hD4, hF4⟩ := keepD g4 hF3 hD3 nB
      have g04 : Gr (fun a => a = D) B 0 F1 (upd H1 D (.lst [])) F4 H4 := g03.trans g4.any
      have r4 := (r3.gr g3).gr g4
      let Pw : Nat → Hp → Prop := fun j H' => ∃ Fj vacc1 acc1, Gr (fun a => a = D) B 0 F4 H4 Fj H' ∧ Fj D = none ∧ H' D = some (.lst vacc1) ∧ Reps B Fj vacc1 acc1 ∧ Iv1 j acc1 ∧ acc1.length ≤ i * 1024 + j
      refine ⟨fun j m H' => m = es.length - j ∧ j ≤ es.length ∧ Pw j H', ⟨es.length, by simp, Nat.zero_le _, F4, vacc, acc, Gr.refl r4.ex, hF4, hD4, ((ra.mono g2.ex).mono g3.ex).mono g4.ex, h01, by omega⟩, ?_⟩
      rintro j m Hj ⟨rfl, hj, Fj, vacc1, acc1, g5, hF5, hD5, ra5, inv1, la1⟩
      have exj : Ex F4 Hj := g5.ex.trans g5.sub
      have r5 := r4.grD nA nB g5
      have g05 : Gr (fun a => a = D) B 0 F1 (upd H1 D (.lst [])) Fj Hj := g04.trans g5
      rcases Nat.lt_or_ge j es.length with hlt1 | hge1
      · refine .inr ⟨wk1.goes j Hj hlt1 exj, Pw (j + 1), fun H' p => ⟨es.length - (j + 1), by omega, rfl, hlt1, p⟩, fun x1 H5 y1 => ?_⟩
        have yy := wk1.yields j Hj x1 H5 hlt1 exj y1
        obtain ⟨e1, F6, he1, g6, rd6, ex6⟩ := yd_step r5 g5.ex yy
        have r6 := (r5.gr g6).wipe vs1
        obtain ⟨hD6, hF6⟩ := keepD g6 hF5 hD5 nB
        refine ⟨_, B, F6, wipeD ε3 vs1, e1, _, r6, rd6, hs1 j e1 acc1 he1 inv1, fun σ7 ε7 r7 w7 t7 => ⟨by rw [w7 vs1 his1, wipe_wipe], ?_⟩⟩
        refine ⟨_, B, F6, ε7, _, n + ci, r7, (g05.trans g6.any).box _ bD, by omega, t7, fun b F8 H8 g8 t8 => ?_⟩
        obtain ⟨hD8, hF8⟩ := keepD g8 hF6 hD6 nB
        have g48 : Gr (fun a => a = D) B 0 F4 H4 F8 H8 := (g5.trans g6.any).trans g8.any
        cases b with
        | false => exact ⟨F8, vacc1, acc1, g48, hF8, hD8, (ra5.mono g6.ex).mono g8.ex, t8, by omega⟩
        | true =>
          show lift .rep 0 Te σ7 H8 _
          refine ⟨_, B, F8, ε7, _, n + ci, r7.gr g8, ((g05.trans g6.any).trans g8.any).box _ bD, by omega, t8, fun yv F9 H9 yd g9 ry iy => ?_⟩
          obtain ⟨hD9, hF9⟩ := keepD g9 hF8 hD8 nB
          have ra9 := ((ra5.mono g6.ex).mono g8.ex).mono g9.ex
          have hsz : acc1.length < 16777216 := by
            have : i * 1024 ≤ 1024 * 1024 := Nat.mul_le_mul_right _ (by omega)
            omega
          have g49 : Gr (fun a => a = D) B 0 F4 H4 F9 (upd H9 D (.lst (vacc1 ++ [yv]))) := (g48.trans g9.any).trans (Gr.write (g9.sub) rfl hF9 nB)
          exact ⟨vacc1, hD9, by rw [ra9.length, sizeLine_eq]; exact hsz, F9, vacc1 ++ [yv], acc1 ++ [yd], g49, hF9, upd_same, ra9.append (.cons ry .nil), iy, by simp; omega⟩
      · have e : j = es.length := by omega
        subst e
        exact .inl ⟨wk1.stops Hj exj, Fj, vacc1, acc1, g05, hF5, hD5, ra5, hd1 acc1 inv1, by omega⟩
  · have e : i = ds.length := by omega
    subst e
    have gg := g1.trans (g.noD hD nB)
    exact .inl ⟨wk.stops Hi exi, k _ Fi Hi (.lst acc) (gg.mono (by omega)) ⟨D, rfl, ⟨hF, nB, _, hDi, ra⟩, g1.free hD⟩ (hd acc inv)⟩
theorem pd_lc2 {ifs ifs1 : List Expr} {scope : Scope} {own : List (Str × Nat)} {vs1 : List Nat} (hc : X.calm = true) (hN : X.N.Nodup) (hi : PID w X ci tg iter Ti) (ok : BlkOk X.N X.env.scope scope own) (hv : ∀ i ∈ vs1, i ∈ own.map (·.2))
    (hg : ∀ (s : Shared) (H : Hp) (C : Addr) (cl : List (Str × Addr)) (fp : List Addr), PGD w (X.blk s H scope (compEnvC scope cl C X.env) fp) is tg G) (ht : ∀ (s : Shared) (H : Hp) (C : Addr) (cl : List (Str × Addr)) (fp : List Addr), PTsD (X.blk s H scope (compEnvC scope cl C X.env) fp) 0 ifs Tt)
    (hi1 : ∀ (s : Shared) (H : Hp) (C : Addr) (cl : List (Str × Addr)) (fp : List Addr), PID w1 (X.blk s H scope (compEnvC scope cl C X.env) fp) 0 tg1 iter1 Ti1)
    (hg1 : ∀ (s : Shared) (H : Hp) (C : Addr) (cl : List (Str × Addr)) (fp : List Addr), PGD w1 (X.blk s H scope (compEnvC scope cl C X.env) fp) is1 tg1 G1) (ht1 : ∀ (s : Shared) (H : Hp) (C : Addr) (cl : List (Str × Addr)) (fp : List Addr), PTsD (X.blk s H scope (compEnvC scope cl C X.env) fp) 0 ifs1 Tt1)
    (he : ∀ (s : Shared) (H : Hp) (C : Addr) (cl : List (Str × Addr)) (fp : List Addr), PD .rep (X.blk s H scope (compEnvC scope cl C X.env) fp) 0 elt Te) (his : ∀ i ∈ is, i ∈ own.map (·.2) := by decide) (his1 : ∀ i ∈ is1, i ∈ vs1 := by decide) (hs : ∀ x, foldedSetIterable iter X.env x = pure x := by intro _; rfl) (hs1 : ∀ env x, foldedSetIterable iter1 env x = pure x := by intro _ _; rfl) :
    PD .fr X ci (.ListComp elt [⟨tg, iter, ifs, 0⟩, ⟨tg1, iter1, ifs1, 0⟩] scope pos) (dLc2 Ti G Tt Ti1 G1 Tt1 Te (own.map (·.2)) vs1) :=
  pe_weak (pe_lc2 hc hN hi ok hv hg ht hi1 hg1 ht1 he hs hs1) (lc2_run his his1)
end
end DL
set_option maxRecDepth 100000
set_option maxHeartbeats 2000000
/-! DL13: constants of the module, the sign, room. -/
namespace DL
open PySem PySem.Spec PyProof.Rows L2 RZ C8
section
variable {X : Cx} {e a b o : Expr} {es : List Expr} {pos p px tpos : Pos} {x f : Str} {c c1 c2 c3 i kt : Nat} {T Ta Tb Te Ti : TD} {U : TAD} {m : Md} {C : Addr}
theorem pd_gi {j : Int} (hg : Gl X x) (h : ∃ t, X.mg x = some (.int j t)) (hd : (x == ("__debug__" : Str)) = false := by decide) : PD .rep X 0 (.Name x pos) (dC (.int j)) :=
  pd_c (pe_gc hg (by obtain ⟨t, h⟩ := h; exact ⟨_, h, t, rfl⟩) hd) fun _ _ => .int
def dNeg (T : TD) : TD := fun ε P => T ε fun d => ∃ i, d = .int i ∧ P (.int (-i))
theorem pd_neg (h : PD .rep X c e T) : PD .rep X c (.UnaryOp .USub e pos) (dNeg T) := pe_weak (pe_un un_neg h) fun σ H Q ⟨A, B, F, ε, P, n, r, bx, hn, t, k⟩ =>
  ⟨A, B, F, ε, _, n, r, bx, hn, t, fun v F' H' d g q ⟨i, e1, p⟩ => by
    subst e1
    cases q
    exact ⟨i, rfl, k _ F' H' _ g .int p⟩⟩
end
theorem ru {k : Nat} {A : Around} (r : Room k A) : A.units + 65 < cLine := by have := r.un; omega
theorem ru0 {k : Nat} {A : Around} (r : Room k A) : A.units + 64 < cLine := by have := r.un; omega
theorem ru1 {k : Nat} {A : Around} (r : Room k A) : A.units + 1 < cLine := by have := r.un; omega
end DL
set_option maxRecDepth 100000
set_option maxHeartbeats 2000000
/-! DL14: the plain side: what the derived predicates say, for simp. -/
namespace DL
open PySem PySem.Spec PyProof.Rows L2 RZ
section
variable {T Ta Tb Te Ti : TD} {U V : TAD} {Tt Tu : TTD} {Ts Tr : TSD} {E : DE} {ε : Ev} {P : Dat → Prop} {PL : List Dat → Prop} {PB : Bool → Prop} {f f' : Dat → Dat → (Dat → Prop) → Prop} {fl : List Dat → (Dat → Prop) → Prop} {S : List Dat → (Dat → Prop) → Prop} {i j n : Nat} {d : Dat} {nx : Ev → Prop} {rt : Dat → Prop}
@[simp] theorem u_sSeq : sSeq Ts Tr E ε = Ts { E with nx := Tr E } ε := rfl
@[simp] theorem u_sNext : sNext E ε = E.nx ε := rfl
@[simp] theorem u_sPass : sPass E ε = E.nx ε := rfl
@[simp] theorem u_sBreak : sBreak E ε = E.bk ε := rfl
@[simp] theorem u_sCont : sCont E ε = E.ct ε := rfl
@[simp] theorem u_sNever : sNever E ε = False := rfl
@[simp] theorem u_sRet : sRet T E ε = T ε E.rt := rfl
@[simp] theorem u_sRetN : sRetN E ε = E.rt .non := rfl
@[simp] theorem u_sDrop : sDrop T E ε = T ε fun _ => E.nx ε := rfl
@[simp] theorem u_sIf : sIf Tt Ts Tr E ε = Tt ε fun b => if b = true then Ts E ε else Tr E ε := rfl
@[simp] theorem u_sFrz : sFrz i Ts E ε = ∃ d, ε[i]? = some (.own d) ∧ Ts E (ε.set i (.val d)) := rfl
@[simp] theorem u_sAsg : sAsg i T E ε = T ε fun d => E.nx (ε.set i (.val d)) := rfl
@[simp] theorem u_sAsgO : sAsgO i T E ε = T ε fun d => E.nx (ε.set i (.own d)) := rfl
@[simp] theorem u_aNil : aNil ε PL = PL [] := rfl
@[simp] theorem u_aCons : aCons T U ε PL = T ε fun d => U ε fun ds => PL (d :: ds) := rfl
@[simp] theorem u_sMul {is : List Nat} {ms : List Md} : sMul is ms U E ε = U ε fun ds => E.nx (setM is ms ds ε) := rfl
@[simp] theorem u_dVar : dVar i ε P = ∃ d, ε[i]? = some (.val d) ∧ P d := rfl
@[simp] theorem u_dVarS : dVarS i ε P = ∃ d, (ε[i]? = some (.val d) ∨ ε[i]? = some (.own d)) ∧ P d := rfl
@[simp] theorem u_dC : dC d ε P = P d := rfl
@[simp] theorem u_dOp : dOp f Ta Tb ε P = Ta ε fun d => Tb ε fun e => f d e P := rfl
@[simp] theorem u_dNeg : dNeg T ε P = T ε fun d => ∃ i, d = .int i ∧ P (.int (-i)) := rfl
@[simp] theorem u_tV : tV T ε PB = T ε fun d => ∃ b, d = .bl b ∧ PB b := rfl
@[simp] theorem u_tNt : tNt Tt ε PB = Tt ε fun b => PB (!b) := rfl
@[simp] theorem u_tAn : tAn Tt Tu ε PB = Tt ε fun b => if b = true then Tu ε PB else PB false := rfl
@[simp] theorem u_tOr : tOr Tt Tu ε PB = Tt ε fun b => if b = true then PB true else Tu ε PB := rfl
@[simp] theorem u_dAn : dAn Ta Tb ε P = Ta ε fun d => ∃ b, d = .bl b ∧ if b = true then Tb ε P else P (.bl false) := rfl
@[simp] theorem u_dOr : dOr Ta Tb ε P = Ta ε fun d => ∃ b, d = .bl b ∧ if b = true then P (.bl true) else Tb ε P := rfl
@[simp] theorem u_dNt : dNt Ta ε P = Ta ε fun d => ∃ b, d = .bl b ∧ P (.bl (!b)) := rfl
@[simp] theorem u_dIf : dIf Tt Ta Tb ε P = Tt ε fun b => if b = true then Ta ε P else Tb ε P := rfl
@[simp] theorem u_dCh {Tc : TD} : dCh f f' Ta Tb Tc ε P = Ta ε fun x => Tb ε fun y => f x y fun z => ∃ k, z = .bl k ∧ if k = true then Tc ε fun w => f' y w P else P (.bl false) := rfl
@[simp] theorem u_aStar : aStar T U ε PL = T ε fun d => ∃ xs, (d = .lst xs ∨ d = .tup xs) ∧ U ε fun ds => PL (xs ++ ds) := rfl
@[simp] theorem u_dTup : dTup U ε P = U ε fun ds => ds.length ≤ 100000 ∧ P (.tup ds) := rfl
@[simp] theorem u_dLst : dLst U ε P = U ε fun ds => ds.length ≤ 100000 ∧ P (.lst ds) := rfl
@[simp] theorem u_oNone {PO : Option Int → Prop} : oNone ε PO = PO none := rfl
@[simp] theorem u_oSome {PO : Option Int → Prop} : oSome T ε PO = T ε fun d => ∃ i, d = .int i ∧ PO (some i) := rfl
@[simp] theorem u_dSl {O1 O2 : TOD} : dSl T O1 O2 ε P = T ε fun d => O1 ε fun lo => O2 ε fun hi => fSl d lo hi P := rfl
@[simp] theorem u_dFld {C : Addr} {x : Str} : dFld C T x ε P = T ε fun d => ∃ xs z, d = .obj C xs ∧ xs.lookup x = some z ∧ P z := rfl
@[simp] theorem u_dCall : dCall S U ε P = U ε fun ds => S ds P := rfl
@[simp] theorem u_dCallK {perm : List Nat} {m : Nat} : dCallK S n m perm U V ε P = U ε fun ds => V ε fun es => ds.length = n ∧ es.length = m ∧ S (gK perm ds es) P := rfl
@[simp] theorem u_dMake {C : Addr} {SI : List Dat → (List (Str × Dat) → Prop) → Prop} : dMake C SI U ε P = U ε fun ds => SI ds fun fds => P (.obj C fds) := rfl
@[simp] theorem u_dMakeK {C : Addr} {SI : List Dat → (List (Str × Dat) → Prop) → Prop} {perm : List Nat} {m : Nat} : dMakeK C SI n m perm U V ε P = U ε fun ds => V ε fun es => ds.length = n ∧ es.length = m ∧ SI (gK perm ds es) fun fds => P (.obj C fds) := rfl
@[simp] theorem u_dCr : dCr fl U ε P = U ε fun ds => fl ds P := rfl
@[simp] theorem u_dLr1 : dLr1 T ε P = T ε fun d => ∃ j : Int, d = .int j ∧ j ≤ 10000 ∧ -10000 ≤ j ∧ P (.lst (rngD 0 j.toNat)) := rfl
@[simp] theorem u_dLr2 : dLr2 Ta Tb ε P = Ta ε fun d => Tb ε fun e => ∃ i j : Int, d = .int i ∧ e = .int j ∧ i ≤ 10000 ∧ -10000 ≤ i ∧ j ≤ 10000 ∧ -10000 ≤ j ∧ P (.lst (rngD i (j - i).toNat)) := rfl
@[simp] theorem u_dTIx : dTIx Ta Te ε P = Ta ε fun d => ∃ xs, d = .tup xs ∧ Te ε fun y => ∃ j z, flatD y = true ∧ xs.all flatD = true ∧ xs[j]? = some z ∧ eqD z y = true ∧ (∀ m z', m < j → xs[m]? = some z' → eqD z' y = false) ∧ P (.int (j : Nat)) := rfl
@[simp] theorem u_dLIx : dLIx Ta Te ε P = Ta ε fun d => ∃ xs, d = .lst xs ∧ Te ε fun y => ∃ j z, pl 20 y = true ∧ pl 20 d = true ∧ xs[j]? = some z ∧ eqD z y = true ∧ (∀ m z', m < j → xs[m]? = some z' → eqD z' y = false) ∧ P (.int (j : Nat)) := rfl
@[simp] theorem u_dLS : dLS T ε P = T ε fun d => ∃ xs ns, d = .tup xs ∧ intsD xs = some ns ∧ ns.Nodup ∧ ns.length ≤ 4000 ∧ P (.int (ns.length : Nat)) := rfl
@[simp] theorem u_dBorA : dBorA i T ε P = ∃ d, ε[i]? = some (.own d) ∧ T (ε.set i (.val d)) fun d' => atomD d' = true ∧ P d' := rfl
@[simp] theorem u_dBorD : dBorD i T ε P = ∃ d, ε[i]? = some (.own d) ∧ isDD d = true ∧ T (ε.set i (.val d)) fun d' => noD d' = true ∧ P d' := rfl
@[simp] theorem u_tBor : tBor i Tt ε PB = ∃ d, ε[i]? = some (.own d) ∧ Tt (ε.set i (.val d)) PB := rfl
@[simp] theorem u_sAsgG {G : GD} : sAsgG T G E ε = T ε fun d => G d ε E.nx := rfl
@[simp] theorem u_gN {R : Ev → Prop} : gN i d ε R = R (ε.set i (.val d)) := rfl
@[simp] theorem u_gNilD {R : Ev → Prop} : gNilD [] ε R = R ε := by simp [gNilD]
@[simp] theorem u_gConsD {G : GD} {Gs : GsD} {ds : List Dat} {R : Ev → Prop} : gConsD G Gs (d :: ds) ε R = G d ε fun ε' => Gs ds ε' R := by
  apply propext
  constructor
  · rintro ⟨d', r, h, p⟩; cases h; exact p
  · intro p; exact ⟨d, ds, rfl, p⟩
@[simp] theorem u_gTupD {Gs : GsD} {ds : List Dat} {R : Ev → Prop} : gTupD n Gs (.tup ds) ε R = (ds.length = n ∧ Gs ds ε R) := by
  apply propext
  constructor
  · rintro ⟨r, h, p⟩; cases h; exact p
  · intro p; exact ⟨ds, rfl, p⟩
@[simp] theorem u_gUnlD {Gs : GsD} {ds : List Dat} {R : Ev → Prop} : gUnlD n Gs (.lst ds) ε R = (ds.length = n ∧ Gs ds ε R) := by
  apply propext
  constructor
  · rintro ⟨r, h, p⟩; cases h; exact p
  · intro p; exact ⟨ds, rfl, p⟩
@[simp] theorem u_sApp : sApp i T E ε = T ε fun d => ∃ ds, ε[i]? = some (.own (.lst ds)) ∧ ds.length < 100000 ∧ E.nx (ε.set i (.own (.lst (ds ++ [d])))) := rfl
@[simp] theorem u_sExt : sExt i T E ε = ((∃ ds, ε[i]? = some (.own (.lst ds))) ∧ T ε fun d => ∃ ds xs, ε[i]? = some (.own (.lst ds)) ∧ d = .lst xs ∧ ds.length + xs.length ≤ 100000 ∧ E.nx (ε.set i (.own (.lst (ds ++ xs))))) := rfl
@[simp] theorem u_sPop : sPop i j E ε = ∃ ds d, ε[j]? = some (.own (.lst (ds ++ [d]))) ∧ E.nx ((ε.set j (.own (.lst ds))).set i (.val d)) := rfl
@[simp] theorem u_sAppPop : sAppPop i j T E ε = ∃ ys xs, i ≠ j ∧ ε[i]? = some (.own (.lst ys)) ∧ ε[j]? = some (.own (.lst xs)) ∧ T ε fun d => ∃ (k : Nat) (z : Dat), d = .int (k : Int) ∧ k < 2 ^ 62 ∧ xs[k]? = some z ∧ ys.length < 100000 ∧ E.nx ((ε.set j (.own (.lst (xs.eraseIdx k)))).set i (.own (.lst (ys ++ [z])))) := rfl
@[simp] theorem u_sSetL : sSetL i Ti Te E ε = Te ε fun z => (∃ ds, ε[i]? = some (.own (.lst ds))) ∧ Ti ε fun d => ∃ ds k j, ε[i]? = some (.own (.lst ds)) ∧ d = .int k ∧ ixN ds.length k = some j ∧ E.nx (ε.set i (.own (.lst (ds.set j z)))) := rfl
@[simp] theorem u_sAugL : sAugL i Ti Te E ε = ((∃ ds, ε[i]? = some (.own (.lst ds))) ∧ Ti ε fun d => ∃ (ds : List Dat) (k : Nat) (a : Int), ε[i]? = some (.own (.lst ds)) ∧ d = .int (k : Int) ∧ ds[k]? = some (.int a) ∧ Te ε fun z => ∃ b : Int, z = .int b ∧ E.nx (ε.set i (.own (.lst (ds.set k (.int (a + b))))))) := rfl
@[simp] theorem u_sPutK : sPutK i Ti Te E ε = Te ε fun z => (∃ ks, ε[i]? = some (.own (.dct ks))) ∧ Ti ε fun d => ∃ ks k, ε[i]? = some (.own (.dct ks)) ∧ keyD d = some k ∧ ks.length < 100000 ∧ E.nx (ε.set i (.own (.dct (putD ks k z)))) := rfl
@[simp] theorem u_sPutT : sPutT i U Te E ε = Te ε fun z => (∃ ks, ε[i]? = some (.own (.dtt ks))) ∧ U ε fun ds => ∃ ks k, ε[i]? = some (.own (.dtt ks)) ∧ ds.mapM keyD = some k ∧ ds.length ≤ 1000 ∧ ks.length < 100000 ∧ E.nx (ε.set i (.own (.dtt (putD ks k z)))) := rfl
@[simp] theorem u_dInT {neg : Bool} : dInT neg U T ε P = U ε fun ds => ∃ k, ds.mapM keyD = some k ∧ ds.length ≤ 1000 ∧ T ε fun d => ∃ ks, d = .dtt ks ∧ P (.bl (neg != (lookD ks k).isSome)) := rfl
@[simp] theorem u_sAug {op : Int → Int → Int} : sAug i Te op E ε = ∃ a, ε[i]? = some (.val (.int a)) ∧ Te ε fun z => ∃ b, z = .int b ∧ E.nx (ε.set i (.val (.int (op a b)))) := rfl
@[simp] theorem u_iL {PI : List Dat → Prop} : iL T ε PI = T ε fun d => ∃ ds, d = .lst ds ∧ PI ds := rfl
@[simp] theorem u_iT {PI : List Dat → Prop} : iT T ε PI = T ε fun d => ∃ ds, d = .tup ds ∧ PI ds := rfl
@[simp] theorem u_iEn {PI : List Dat → Prop} : iEn U ε PI = U ε fun ds => ∃ d xs, ds = [d] ∧ (d = .lst xs ∨ d = .tup xs) ∧ PI (enumD xs) := rfl
@[simp] theorem u_iZp {PI : List Dat → Prop} : iZp U ε PI = U ε fun ds => ∃ d d' xs ys, ds = [d, d'] ∧ ((d = .lst xs ∧ d' = .lst ys) ∨ (d = .tup xs ∧ d' = .tup ys)) ∧ PI (zipD xs ys) := rfl
@[simp] theorem u_iR1 {PI : List Dat → Prop} : iR1 U ε PI = U ε fun ds => ∃ j : Int, ds = [.int j] ∧ j < 2 ^ 62 ∧ -(2 ^ 62) ≤ j ∧ PI (rngD 0 j.toNat) := rfl
@[simp] theorem u_iR2 {PI : List Dat → Prop} : iR2 U ε PI = U ε fun ds => ∃ i j : Int, ds = [.int i, .int j] ∧ (-(2 ^ 62) ≤ i ∧ i < 2 ^ 62 ∧ -(2 ^ 62) ≤ j ∧ j < 2 ^ 62) ∧ PI (rngD i (j - i).toNat) := rfl
@[simp] theorem u_dYes : dYes ε PB = PB true := rfl
@[simp] theorem u_wipe0 : wipeD ε [] = ε := rfl
@[simp] theorem u_wipe1 {vs : List Nat} : wipeD ε (i :: vs) = (wipeD ε vs).set i .off := rfl
@[simp] theorem u_setM0 {ms : List Md} {ds : List Dat} : setM [] ms ds ε = ε := by unfold setM; rfl
@[simp] theorem u_setMf {is : List Nat} {ms : List Md} {ds : List Dat} : setM (i :: is) (.fr :: ms) (d :: ds) ε = setM is ms ds (ε.set i (.own d)) := rfl
@[simp] theorem u_setMr {is : List Nat} {ms : List Md} {ds : List Dat} : setM (i :: is) (.rep :: ms) (d :: ds) ε = setM is ms ds (ε.set i (.val d)) := rfl
@[simp] theorem u_startD {N : List Str} {ds : List Dat} : startD N ds = ds.map .val ++ List.replicate (N.length - ds.length) .off := rfl
/-! operators on shapes -/
variable {a b : Int} {p q : Bool} {xs ys : List Dat}
@[simp] theorem o_I {g : Int → Int → Int} {C : Int → Int → Prop} : fI g C (.int a) (.int b) P = (C a b ∧ P (.int (g a b))) := rfl
@[simp] theorem o_C {g : Int → Int → Bool} : fC g (.int a) (.int b) P = P (.bl (g a b)) := rfl
@[simp] theorem o_Aii : fAdd (.int a) (.int b) P = P (.int (a + b)) := rfl
@[simp] theorem o_Aib : fAdd (.int a) (.bl p) P = P (.int (a + PyProof.Rows.b2i p)) := rfl
@[simp] theorem o_Att : fAdd (.tup xs) (.tup ys) P = (xs.length + ys.length ≤ 100000 ∧ P (.tup (xs ++ ys))) := rfl
@[simp] theorem o_All : fAdd (.lst xs) (.lst ys) P = (xs.length + ys.length ≤ 100000 ∧ P (.lst (xs ++ ys))) := rfl
@[simp] theorem o_Mii : fMul (.int a) (.int b) P = (CMul a b ∧ P (.int (a * b))) := rfl
@[simp] theorem o_Mli : fMul (.lst xs) (.int b) P = (b < 1000 ∧ -1000 < b ∧ xs.length ≤ 100 ∧ P (.lst (List.replicate b.toNat xs).flatten)) := rfl
@[simp] theorem o_Mti : fMul (.tup xs) (.int b) P = (b < 1000 ∧ -1000 < b ∧ xs.length ≤ 100 ∧ P (.tup (List.replicate b.toNat xs).flatten)) := rfl
@[simp] theorem o_Rli : fRepL (.lst xs) (.int b) P = (b < 1000 ∧ -1000 < b ∧ xs.length ≤ 100 ∧ P (.lst (List.replicate b.toNat xs).flatten)) := rfl
@[simp] theorem o_Eq {d e : Dat} : fEq d e P = (pl 20 d = true ∧ pl 20 e = true ∧ P (.bl (eqD d e))) := rfl
@[simp] theorem o_Ne {d e : Dat} : fNe d e P = (pl 20 d = true ∧ pl 20 e = true ∧ P (.bl (!eqD d e))) := rfl
@[simp] theorem o_IsN {neg : Bool} {d : Dat} : fIs neg d .non P = P (.bl (neg != isNon d)) := by cases d <;> rfl
@[simp] theorem o_IsB {neg : Bool} : fIs neg (.bl p) (.bl q) P = P (.bl (neg != (p == q))) := rfl
@[simp] theorem o_InL {neg : Bool} {d : Dat} : fIn neg d (.lst xs) P = (pl 20 d = true ∧ pl 20 (.lst xs) = true ∧ P (.bl (neg != xs.any fun z => eqD z d))) := by cases d <;> rfl
@[simp] theorem o_InT {neg : Bool} {d : Dat} : fIn neg d (.tup xs) P = (flatD d = true ∧ xs.all flatD = true ∧ P (.bl (neg != xs.any fun z => eqD z d))) := by cases d <;> rfl
@[simp] theorem o_IxL : fIx (.lst xs) (.int a) P = ∃ d, atI xs a = some d ∧ P d := rfl
@[simp] theorem o_IxT : fIx (.tup xs) (.int a) P = ∃ d, atI xs a = some d ∧ P d := rfl
@[simp] theorem o_IxD {ks : List (Key × Dat)} {d : Dat} : fIx (.dct ks) d P = ∃ k e, keyD d = some k ∧ lookD ks k = some e ∧ P e := rfl
@[simp] theorem o_SlL {lo hi : Option Int} : fSl (.lst xs) lo hi P = P (.lst (cut xs lo hi)) := rfl
@[simp] theorem o_SlT {lo hi : Option Int} : fSl (.tup xs) lo hi P = P (.tup (cut xs lo hi)) := rfl
@[simp] theorem o_LenL : fLen [.lst xs] P = P (.int xs.length) := rfl
@[simp] theorem o_LenT : fLen [.tup xs] P = P (.int xs.length) := rfl
@[simp] theorem o_IntI : fInt [.int a] P = P (.int a) := rfl
@[simp] theorem o_IntB : fInt [.bl p] P = P (.int (if p then 1 else 0)) := rfl
@[simp] theorem o_TupL : fTup [.lst xs] P = P (.tup xs) := rfl
@[simp] theorem o_TupT : fTup [.tup xs] P = P (.tup xs) := rfl
@[simp] theorem o_LstL : fLst [.lst xs] P = P (.lst xs) := rfl
@[simp] theorem o_LstT : fLst [.tup xs] P = P (.lst xs) := rfl
@[simp] theorem o_MaxL : fMax [.lst xs] P = ∃ ns, intsD xs = some ns ∧ 0 < ns.length ∧ ∀ m, m ∈ ns → (∀ y, y ∈ ns → y ≤ m) → P (.int m) := rfl
@[simp] theorem o_Max2 : fMax [.int a, .int b] P = P (.int (if b > a then b else a)) := rfl
@[simp] theorem o_MinL : fMin [.lst xs] P = ∃ ns, intsD xs = some ns ∧ 0 < ns.length ∧ ∀ m, m ∈ ns → (∀ y, y ∈ ns → m ≤ y) → P (.int m) := rfl
@[simp] theorem o_Min2 : fMin [.int a, .int b] P = P (.int (if b < a then b else a)) := rfl
@[simp] theorem o_SortedL : fSorted [.lst xs] P = ∃ ns, intsD xs = some ns ∧ ∀ ms : List Int, ms.Perm ns → ms.Pairwise (· ≤ ·) → P (.lst (ms.map Dat.int)) := rfl
@[simp] theorem o_SortedT : fSorted [.tup xs] P = ∃ ns, intsD xs = some ns ∧ ∀ ms : List Int, ms.Perm ns → ms.Pairwise (· ≤ ·) → P (.lst (ms.map Dat.int)) := rfl
@[simp] theorem o_All_ : fAll [.lst xs] P = ∃ bs, blsD xs = some bs ∧ P (.bl (bs.all _root_.id)) := rfl
@[simp] theorem o_Any_ : fAny [.lst xs] P = ∃ bs, blsD xs = some bs ∧ P (.bl (bs.any _root_.id)) := rfl
@[simp] theorem o_Isi {d : Dat} {s : String} : fIsi [d, .ty s] P = ∃ a, tyN d = some a ∧ s ∈ tyNames ∧ P (.bl (isT a s)) := rfl
@[simp] theorem o_Isi2 {d : Dat} {s t : String} : fIsi2 [d, .tup [.ty s, .ty t]] P = ∃ a, tyN d = some a ∧ s ∈ tyNames ∧ t ∈ tyNames ∧ P (.bl (isT a s || isT a t)) := rfl
@[simp] theorem o_IsO {C C' C2 : Addr} {fs : List (Str × Dat)} : fIsO C [.obj C' fs, .cls C2] P = (C' = C ∧ C2 = C ∧ P (.bl true)) := rfl
end
@[simp] theorem m_int : ("int" : String) ∈ tyNames := by decide
@[simp] theorem m_bool : ("bool" : String) ∈ tyNames := by decide
@[simp] theorem m_tuple : ("tuple" : String) ∈ tyNames := by decide
@[simp] theorem m_list : ("list" : String) ∈ tyNames := by decide
@[simp] theorem m_str : ("str" : String) ∈ tyNames := by decide
@[simp] theorem m_dict : ("dict" : String) ∈ tyNames := by decide
@[simp] theorem if_some_val {b : Bool} {d d' : Dat} : (some (Sl.val d) = some (Sl.own d')) = False := by simp
@[simp] theorem it_NoneType_bool : isT "NoneType" "bool" = false := by decide
@[simp] theorem it_NoneType_int : isT "NoneType" "int" = false := by decide
@[simp] theorem it_NoneType_str : isT "NoneType" "str" = false := by decide
@[simp] theorem it_NoneType_tuple : isT "NoneType" "tuple" = false := by decide
@[simp] theorem it_NoneType_list : isT "NoneType" "list" = false := by decide
@[simp] theorem it_NoneType_dict : isT "NoneType" "dict" = false := by decide
@[simp] theorem it_bool_bool : isT "bool" "bool" = true := by decide
@[simp] theorem it_bool_int : isT "bool" "int" = true := by decide
@[simp] theorem it_bool_str : isT "bool" "str" = false := by decide
@[simp] theorem it_bool_tuple : isT "bool" "tuple" = false := by decide
@[simp] theorem it_bool_list : isT "bool" "list" = false := by decide
@[simp] theorem it_bool_dict : isT "bool" "dict" = false := by decide
@[simp] theorem it_int_bool : isT "int" "bool" = false := by decide
@[simp] theorem it_int_int : isT "int" "int" = true := by decide
@[simp] theorem it_int_str : isT "int" "str" = false := by decide
@[simp] theorem it_int_tuple : isT "int" "tuple" = false := by decide
@[simp] theorem it_int_list : isT "int" "list" = false := by decide
@[simp] theorem it_int_dict : isT "int" "dict" = false := by decide
@[simp] theorem it_str_bool : isT "str" "bool" = false := by decide
@[simp] theorem it_str_int : isT "str" "int" = false := by decide
@[simp] theorem it_str_str : isT "str" "str" = true := by decide
@[simp] theorem it_str_tuple : isT "str" "tuple" = false := by decide
@[simp] theorem it_str_list : isT "str" "list" = false := by decide
@[simp] theorem it_str_dict : isT "str" "dict" = false := by decide
@[simp] theorem it_tuple_bool : isT "tuple" "bool" = false := by decide
@[simp] theorem it_tuple_int : isT "tuple" "int" = false := by decide
@[simp] theorem it_tuple_str : isT "tuple" "str" = false := by decide
@[simp] theorem it_tuple_tuple : isT "tuple" "tuple" = true := by decide
@[simp] theorem it_tuple_list : isT "tuple" "list" = false := by decide
@[simp] theorem it_tuple_dict : isT "tuple" "dict" = false := by decide
@[simp] theorem it_list_bool : isT "list" "bool" = false := by decide
@[simp] theorem it_list_int : isT "list" "int" = false := by decide
@[simp] theorem it_list_str : isT "list" "str" = false := by decide
@[simp] theorem it_list_tuple : isT "list" "tuple" = false := by decide
@[simp] theorem it_list_list : isT "list" "list" = true := by decide
@[simp] theorem it_list_dict : isT "list" "dict" = false := by decide
@[simp] theorem it_dict_bool : isT "dict" "bool" = false := by decide
@[simp] theorem it_dict_int : isT "dict" "int" = false := by decide
@[simp] theorem it_dict_str : isT "dict" "str" = false := by decide
@[simp] theorem it_dict_tuple : isT "dict" "tuple" = false := by decide
@[simp] theorem it_dict_list : isT "dict" "list" = false := by decide
@[simp] theorem it_dict_dict : isT "dict" "dict" = true := by decide
@[simp] theorem ty_non : tyN .non = some "NoneType" := rfl
@[simp] theorem ty_bl {b : Bool} : tyN (.bl b) = some "bool" := rfl
@[simp] theorem ty_int {i : Int} : tyN (.int i) = some "int" := rfl
@[simp] theorem ty_str {x : Str} : tyN (.str x) = some "str" := rfl
@[simp] theorem ty_tup {xs : List Dat} : tyN (.tup xs) = some "tuple" := rfl
@[simp] theorem ty_lst {xs : List Dat} : tyN (.lst xs) = some "list" := rfl
@[simp] theorem ty_dct {xs : List (Key × Dat)} : tyN (.dct xs) = some "dict" := rfl
@[simp] theorem ex_bl {b : Bool} {p : Bool → Prop} : (∃ k, Dat.bl b = .bl k ∧ p k) = p b := by
  apply propext
  constructor
  · rintro ⟨k, h, hp⟩; cases h; exact hp
  · intro h; exact ⟨b, rfl, h⟩
/-- a comprehension whose turns carry nothing: what is asked of it -/
theorem lcp {M : Nat} {G : GD} {Tt : TTD} {Te : TD} {vs : List Nat} {ε : Ev} {Pl : List Dat → Prop} {ds : List Dat} (g : Dat → Option Dat) (hl : ds.length ≤ M)
    (h : ∀ d ∈ ds, ∀ R : Option Dat → Prop, R (g d) → G d (wipeD ε vs) fun ε2 => Tt ε2 fun b => if b = true then Te ε2 fun y => R (some y) else R none) (hP : Pl (ds.filterMap g)) :
    ds.length ≤ M ∧ ∃ Iv : Nat → List Dat → Prop, Iv 0 [] ∧
      (∀ i d acc, ds[i]? = some d → Iv i acc → G d (wipeD ε vs) fun ε2 => Tt ε2 fun b => if b = true then Te ε2 fun y => Iv (i + 1) (acc ++ [y]) else Iv (i + 1) acc) ∧ ∀ acc, Iv ds.length acc → Pl acc := by
  refine ⟨hl, fun i acc => acc = (ds.take i).filterMap g, by simp, fun i d acc hd ha => ?_, fun acc ha => ?_⟩
  · subst ha
    have ht : ds.take (i + 1) = ds.take i ++ [d] := by rw [List.take_add_one, hd]; rfl
    have := h d (List.mem_of_getElem? hd) (fun o => (ds.take i).filterMap g ++ o.toList = (ds.take (i + 1)).filterMap g) (by
      rw [ht, List.filterMap_append]
      cases e : g d <;> simp [e])
    simpa using this
  · subst ha
    rw [List.take_length]
    exact hP
/-- .. over a list's images -/
theorem lcm {α : Type} {M : Nat} {G : GD} {Tt : TTD} {Te : TD} {vs : List Nat} {ε : Ev} {Pl : List Dat → Prop} {ds : List Dat} (l : List α) (F : α → Dat) (g : α → Option Dat) (hds : ds = l.map F) (hl : l.length ≤ M)
    (h : ∀ a ∈ l, ∀ R : Option Dat → Prop, R (g a) → G (F a) (wipeD ε vs) fun ε2 => Tt ε2 fun b => if b = true then Te ε2 fun y => R (some y) else R none) (hP : Pl (l.filterMap g)) :
    ds.length ≤ M ∧ ∃ Iv : Nat → List Dat → Prop, Iv 0 [] ∧
      (∀ i d acc, ds[i]? = some d → Iv i acc → G d (wipeD ε vs) fun ε2 => Tt ε2 fun b => if b = true then Te ε2 fun y => Iv (i + 1) (acc ++ [y]) else Iv (i + 1) acc) ∧ ∀ acc, Iv ds.length acc → Pl acc := by
  subst hds
  refine ⟨by simpa using hl, fun i acc => acc = (l.take i).filterMap g, by simp, fun i d acc hd ha => ?_, fun acc ha => ?_⟩
  · subst ha
    rw [List.getElem?_map] at hd
    cases e : l[i]? with
    | none => rw [e] at hd; cases hd
    | some a =>
      rw [e] at hd
      cases hd
      have ht : l.take (i + 1) = l.take i ++ [a] := by rw [List.take_add_one, e]; rfl
      have := h a (List.mem_of_getElem? e) (fun o => (l.take i).filterMap g ++ o.toList = (l.take (i + 1)).filterMap g) (by
        rw [ht, List.filterMap_append]
        cases e : g a <;> simp [e])
      simpa using this
  · subst ha
    rw [List.length_map, List.take_length]
    exact hP
theorem fm_if {α β : Type} (p : α → Bool) (f : α → β) (l : List α) : l.filterMap (fun x => if p x = true then some (f x) else none) = (l.filter p).map f := by
  induction l with
  | nil => rfl
  | cons a l ih =>
    by_cases h : p a = true
    · simp [h, ih]
    · simp [h, ih]
section
variable {α : Type} {M : Nat} {T Te : TD} {U : TAD} {G : GD} {Ts : TSD} {Tt : TTD} {E : DE} {ε : Ev} {ds : List Dat} {vs : List Nat} {P : Dat → Prop}
theorem for_tup (hT : ∀ P : Dat → Prop, P (.tup ds) → T ε P) (hl : ds.length ≤ M) (Iv : Nat → Ev → Prop) (h0 : Iv 0 ε) (hs : ∀ i d ε', ds[i]? = some d → Iv i ε' → G d ε' fun ε2 => Ts { E with nx := Iv (i + 1), ct := Iv (i + 1), bk := E.nx } ε2) (hd : ∀ ε', Iv ds.length ε' → E.nx ε') : sFor M (iT T) G Ts E ε := hT _ ⟨ds, rfl, hl, Iv, h0, hs, hd⟩
theorem for_lst (hT : ∀ P : Dat → Prop, P (.lst ds) → T ε P) (hl : ds.length ≤ M) (Iv : Nat → Ev → Prop) (h0 : Iv 0 ε) (hs : ∀ i d ε', ds[i]? = some d → Iv i ε' → G d ε' fun ε2 => Ts { E with nx := Iv (i + 1), ct := Iv (i + 1), bk := E.nx } ε2) (hd : ∀ ε', Iv ds.length ε' → E.nx ε') : sFor M (iL T) G Ts E ε := hT _ ⟨ds, rfl, hl, Iv, h0, hs, hd⟩
theorem for_en {d : Dat} (hT : ∀ P : List Dat → Prop, P [d] → U ε P) (hd0 : d = .lst ds ∨ d = .tup ds) (hl : ds.length ≤ M) (Iv : Nat → Ev → Prop) (h0 : Iv 0 ε) (hs : ∀ i d ε', ds[i]? = some d → Iv i ε' → G (.tup [.int (i : Nat), d]) ε' fun ε2 => Ts { E with nx := Iv (i + 1), ct := Iv (i + 1), bk := E.nx } ε2) (hd : ∀ ε', Iv ds.length ε' → E.nx ε') : sFor M (iEn U) G Ts E ε :=
  hT _ ⟨d, ds, rfl, hd0, by rw [enumD_len]; exact hl, Iv, h0, fun i e ε' h1 h2 => by
    rw [enumD_get] at h1
    cases q : ds[i]? with
    | none => rw [q] at h1; cases h1
    | some d' => rw [q] at h1; cases h1; exact hs i d' ε' q h2, by rw [enumD_len]; exact hd⟩
theorem for_r1 {n : Nat} (hT : ∀ P : List Dat → Prop, P [.int (n : Int)] → U ε P) (hl : n ≤ M) (hM : n ≤ 100000) (Iv : Nat → Ev → Prop) (h0 : Iv 0 ε) (hs : ∀ i ε', i < n → Iv i ε' → G (.int (i : Int)) ε' fun ε2 => Ts { E with nx := Iv (i + 1), ct := Iv (i + 1), bk := E.nx } ε2) (hd : ∀ ε', Iv n ε' → E.nx ε') : sFor M (iR1 U) G Ts E ε := by
  refine hT _ ⟨n, rfl, by omega, by omega, by simp [rngD]; exact hl, Iv, h0, fun i e ε' h1 h2 => ?_, by simp [rngD]; exact hd⟩
  have hi : i < n := by
    have := (List.getElem?_eq_some_iff.mp h1).1
    simpa [rngD] using this
  have : e = .int (i : Int) := by
    simp [rngD, hi] at h1
    rw [← h1]
  subst this
  exact hs i ε' hi h2
theorem lc_tup (l : List α) (F : α → Dat) (g : α → Option Dat) (hT : ∀ P : Dat → Prop, P (.tup (l.map F)) → T ε P) (hl : l.length ≤ M)
    (h : ∀ a ∈ l, ∀ R : Option Dat → Prop, R (g a) → G (F a) (wipeD ε vs) fun ε2 => Tt ε2 fun b => if b = true then Te ε2 fun y => R (some y) else R none) (hP : P (.lst (l.filterMap g))) : dLc M (iT T) G Tt Te vs ε P :=
  hT _ ⟨_, rfl, lcm (Pl := fun a => P (.lst a)) l F g rfl hl h hP⟩
theorem lc_lst (l : List α) (F : α → Dat) (g : α → Option Dat) (hT : ∀ P : Dat → Prop, P (.lst (l.map F)) → T ε P) (hl : l.length ≤ M)
    (h : ∀ a ∈ l, ∀ R : Option Dat → Prop, R (g a) → G (F a) (wipeD ε vs) fun ε2 => Tt ε2 fun b => if b = true then Te ε2 fun y => R (some y) else R none) (hP : P (.lst (l.filterMap g))) : dLc M (iL T) G Tt Te vs ε P :=
  hT _ ⟨_, rfl, lcm (Pl := fun a => P (.lst a)) l F g rfl hl h hP⟩
theorem lc_r1 {n : Nat} (g : Nat → Option Dat) (hT : ∀ P : List Dat → Prop, P [.int (n : Int)] → U ε P) (hl : n ≤ M) (hM : n ≤ 100000)
    (h : ∀ a, a < n → ∀ R : Option Dat → Prop, R (g a) → G (.int (a : Int)) (wipeD ε vs) fun ε2 => Tt ε2 fun b => if b = true then Te ε2 fun y => R (some y) else R none) (hP : P (.lst ((List.range n).filterMap g))) : dLc M (iR1 U) G Tt Te vs ε P :=
  hT _ ⟨n, rfl, by omega, by omega, lcm (Pl := fun a => P (.lst a)) (List.range n) (fun (i : Nat) => .int (i : Int)) g (by simp [rngD]) (by simpa using hl) (fun a ha => h a (List.mem_range.mp ha)) hP⟩
theorem lc_en {d : Dat} {xs : List Dat} (l : List α) (F : α → Dat) (g : α → Option Dat) (hT : ∀ P : List Dat → Prop, P [d] → U ε P) (hd0 : d = .lst xs ∨ d = .tup xs) (he : enumD xs = l.map F) (hl : l.length ≤ M)
    (h : ∀ a ∈ l, ∀ R : Option Dat → Prop, R (g a) → G (F a) (wipeD ε vs) fun ε2 => Tt ε2 fun b => if b = true then Te ε2 fun y => R (some y) else R none) (hP : P (.lst (l.filterMap g))) : dLc M (iEn U) G Tt Te vs ε P :=
  hT _ ⟨d, xs, rfl, hd0, lcm (Pl := fun a => P (.lst a)) l F g he hl h hP⟩
end
theorem SIs.cost {C : Addr} {X : Cx} {c c1 : Nat} {st : List Stmt} {T : TID0} (h : SIs C X c st T) (hc : c ≤ c1) : SIs C X c1 st T := pss_weak h fun D σ H ⟨A, B, F, ε, P, n, p, dx, fs, xs, r, bx, hn, h0, hA, hF, hB, hp, hk, hv, t, k⟩ =>
  ⟨A, B, F, ε, P, n, p, dx, fs, xs, r, bx, by omega, h0, hA, hF, hB, hp, hk, hv, t, fun F' H' σ' dx' fs' xs' g => k F' H' σ' dx' fs' xs' (g.mono hc)⟩
@[simp] theorem u_startO {p : Addr} {N : List Str} {ds : List Dat} : startO p N ds = .raw (.ref p) :: (ds.map .val ++ List.replicate (N.length - (ds.length + 1)) .off) := rfl
theorem fm_const {α β : Type} (c : β) (l : List α) : l.filterMap (fun _ => some c) = List.replicate l.length c := by
  induction l with
  | nil => rfl
  | cons a l ih => simp [ih, List.replicate_succ]
theorem fm_map {α β : Type} (f : α → β) (l : List α) : l.filterMap (fun x => some (f x)) = l.map f := by
  induction l with
  | nil => rfl
  | cons a l ih => simp [ih]
@[simp] theorem blsD_rep {n : Nat} {b : Bool} : blsD (List.replicate n (Dat.bl b)) = some (List.replicate n b) := by
  have := DL.bls_map (List.replicate n b)
  rwa [List.map_replicate] at this
@[simp] theorem all_rep {n : Nat} : (List.replicate n true).all _root_.id = true := by simp
end DL
set_option maxRecDepth 100000
set_option maxHeartbeats 2000000
/-! DL15: the cell that gives digits: reads, stores. -/
namespace DL
open PySem PySem.Spec PyProof.Rows L2 RZ
section
variable {X : Cx} {e : Expr} {pos px tpos : Pos} {x : Str} {c : Nat} {i : Nat} {T : TD} {j1 : Nat} {jp : Pos}
/-- what a cell's place may hold -/
def boxR : Nat → (Dat → Prop) → Prop
  | 0, P => ∀ g : Int, 0 ≤ g → P (.int g)
  | 1, P => ∀ b : Bool, P (.bl b)
  | 2, P => ∀ m : Int, 0 ≤ m → m < 2147483647 → P (.int m)
  | 3, P => ∀ l : Int, 0 ≤ l → l ≤ CAP → P (.int l)
  | _, _ => False
def dBox (i : Nat) (k : Nat) : TD := fun ε P => ε[i]? = some (.val .cell) ∧ boxR k P
theorem cell_at {A : Addr → Prop} {B : Option Addr} {F H : Hp} {σ : L2.St} {ε : Ev} {n : Nat} (r : Rs A B F H σ ε) (bx : BoxAt B H n) (h : ε[i]? = some (.val .cell)) : ∃ b vs, B = some b ∧ σ[i]? = some (some (.ref b)) ∧ H b = some (.lst vs) ∧ BoxV vs n := by
  obtain ⟨v, h1, h2⟩ := r.val i _ h
  cases h2 with
  | cell hb =>
    obtain ⟨vs, h3, h4⟩ := bx _ hb
    exact ⟨_, vs, hb, h1, h3, h4⟩
theorem pd_box {k : Nat} (hx : PE X (.Name x px) (tVar i)) (hk : k < 4) (hs : PlainIx (.Constant (.int (k : Int)) j1 jp) := by exact fun _ _ => rfl) : PD .rep X 0 (.Subscript (.Name x px) (.Constant (.int (k : Int)) j1 jp) pos) (dBox i k) :=
  pe_weak (pe_ix ix_list hx pe_int hs) fun σ H Q ⟨A, B, F, ε, P, n, r, bx, hn, ⟨h0, t⟩, kk⟩ => by
    obtain ⟨b, vs, hb, h1, h2, g, q, m, l, e, a1, a2, a3, a4, a5⟩ := cell_at r bx h0
    subst e
    refine ⟨_, h1, ?_⟩
    match k, hk with
    | 0, _ => exact ⟨b, _, 0, .int g, rfl, rfl, SqL.of h2, rfl, kk _ F H _ (Gr.refl r.ex) .int (t g a1)⟩
    | 1, _ => exact ⟨b, _, 1, .bl q, rfl, rfl, SqL.of h2, rfl, kk _ F H _ (Gr.refl r.ex) .bl (t q)⟩
    | 2, _ => exact ⟨b, _, 2, .int m, rfl, rfl, SqL.of h2, rfl, kk _ F H _ (Gr.refl r.ex) .int (t m a2 a3)⟩
    | 3, _ => exact ⟨b, _, 3, .int l, rfl, rfl, SqL.of h2, rfl, kk _ F H _ (Gr.refl r.ex) .int (t l a4 (by omega))⟩
theorem box_write {A : Addr → Prop} {B : Option Addr} {F H : Hp} {σ : L2.St} {ε : Ev} {n n' : Nat} {b : Addr} {vs : List L2.V} (r : Rs A B F H σ ε) (hb : B = some b) (hv : BoxV vs n') (hn : ∀ k, BoxAt B H k → BoxAt B (upd H b (.lst vs)) (k + (n' - n))) :
    Rs A B F (upd H b (.lst vs)) σ ε ∧ Gr A B (n' - n) F H F (upd H b (.lst vs)) := by
  obtain ⟨f1, f2, o, f3⟩ := r.bx b hb
  have ex : Ex F (upd H b (.lst vs)) := r.ex.mut f1
  refine ⟨⟨ex, r.len, r.val, fun j d q => ?_, r.sep, fun a ha => ?_, fun a ha => ?_, r.raw⟩, ⟨.refl _, ex, fun a u h => .inl h, fun a u h nb _ => ?_, fun a u h => ?_, hn⟩⟩
  · obtain ⟨p, h1, h2, w⟩ := r.own j d q
    obtain ⟨o2, h3, h4⟩ := w.con
    have ne : p ≠ b := fun z => f2 (z ▸ h2)
    exact ⟨p, h1, h2, w.out, w.nb, o2, by rw [upd_ne ne]; exact h3, h4⟩
  · rw [hb] at ha
    cases ha
    exact ⟨f1, f2, _, upd_same⟩
  · refine r.new a ?_
    by_cases z : a = b
    · subst z; rw [upd_same] at ha; cases ha
    · rwa [upd_ne z] at ha
  · have ne : a ≠ b := fun z => nb (by rw [hb, z])
    rw [upd_ne ne]
    exact h
  · by_cases z : a = b
    · subst z; exact ⟨_, upd_same⟩
    · exact ⟨u, by rw [upd_ne z]; exact h⟩
/-- box[0] = e -/
def sBox0 (i : Nat) (T : TD) : TSD := fun E ε => T ε fun d => ∃ g : Int, d = .int g ∧ 0 ≤ g ∧ ε[i]? = some (.val .cell) ∧ E.nx ε
theorem sd_box0 (hx : PE X (.Name x px) (tVar i)) (he : PD .rep X c e T)
    (ha : ∀ v, assign (.Subscript (.Name x px) (.Constant (.int 0) j1 jp) tpos) X.env v = (do
      let ov ← holding [v] (eval (.Name x px) X.env)
      let iv ← holding [v, ov] (eval (.Constant (.int 0) j1 jp) X.env)
      standAt tpos
      holding [v, ov, iv] (setItem ov iv v)
      release [v, ov, iv] []) := by intro _; rfl)
    (hs : swapsWithSole [.Subscript (.Name x px) (.Constant (.int 0) j1 jp) tpos] e pos.line X.env = pure false := by rfl) (hw : swappedStores [.Subscript (.Name x px) (.Constant (.int 0) j1 jp) tpos] e X.env = pure none := by rfl)
    (h1 : (assignEach [.Subscript (.Name x px) (.Constant (.int 0) j1 jp) tpos] X.env).map (·.2) = [assign (.Subscript (.Name x px) (.Constant (.int 0) j1 jp) tpos) X.env] := by rfl) : SD X c (.Assign [.Subscript (.Name x px) (.Constant (.int 0) j1 jp) tpos] e pos) (sBox0 i T) :=
  ps_weak (ps_asg he (pg_sub hx pe_int set_list ha) hs hw h1) fun D σ H ⟨A, B, F, ε, E, n, r, bx, hn, t, k1, _⟩ =>
    ⟨A, B, F, ε, _, n, r, bx, hn, t, fun v F1 H1 d g1 q1 ⟨g', e1, h0, hc, p⟩ => by
      subst e1
      cases q1
      have r1 := r.gr g1
      obtain ⟨b, vs, hb, h2, h3, g, q, m, l, e, a1, a2, a3, a4, a5⟩ := cell_at r1 (g1.box n bx) hc
      subst e
      refine ⟨_, h2, b, _, 0, 0, rfl, rfl, h3, rfl, ?_⟩
      have hv : BoxV [.int g', .bl q, .int m, .int l] (n + c) := ⟨g', q, m, l, rfl, h0, a2, a3, a4, a5⟩
      obtain ⟨r2, g2⟩ := box_write (n := n + c) (n' := n + c) r1 hb hv fun k hk => by
        intro a ha
        rw [hb] at ha
        cases ha
        obtain ⟨ws, w1, g0, q0, m0, l0, w2, w3, w4, w5, w6, w7⟩ := hk b hb
        rw [h3] at w1
        cases w1
        cases w2
        exact ⟨_, upd_same, g', _, _, _, rfl, h0, w4, w5, w6, by omega⟩
      exact k1 F1 _ σ ε ((g1.any.trans g2).mono (by omega)) r2 p⟩
/-- box[3] = box[3] + 1 -/
def sBox3 (i : Nat) : TSD := fun E ε => ε[i]? = some (.val .cell) ∧ E.nx ε
theorem sd_box3 {x2 : Str} {px2 tpos2 bpos jp2 jp3 : Pos} {j2 j3 : Nat} (hx : PE X (.Name x px) (tVar i)) (hx2 : PE X (.Name x2 px2) (tVar i))
    (ha : ∀ v, assign (.Subscript (.Name x px) (.Constant (.int 3) j1 jp) tpos) X.env v = (do
      let ov ← holding [v] (eval (.Name x px) X.env)
      let iv ← holding [v, ov] (eval (.Constant (.int 3) j1 jp) X.env)
      standAt tpos
      holding [v, ov, iv] (setItem ov iv v)
      release [v, ov, iv] []) := by intro _; rfl)
    (hs : swapsWithSole [.Subscript (.Name x px) (.Constant (.int 3) j1 jp) tpos] (.BinOp (.Subscript (.Name x2 px2) (.Constant (.int 3) j2 jp2) tpos2) .Add (.Constant (.int 1) j3 jp3) bpos) pos.line X.env = pure false := by rfl)
    (hw : swappedStores [.Subscript (.Name x px) (.Constant (.int 3) j1 jp) tpos] (.BinOp (.Subscript (.Name x2 px2) (.Constant (.int 3) j2 jp2) tpos2) .Add (.Constant (.int 1) j3 jp3) bpos) X.env = pure none := by rfl)
    (h1 : (assignEach [.Subscript (.Name x px) (.Constant (.int 3) j1 jp) tpos] X.env).map (·.2) = [assign (.Subscript (.Name x px) (.Constant (.int 3) j1 jp) tpos) X.env] := by rfl) :
    SD X 1 (.Assign [.Subscript (.Name x px) (.Constant (.int 3) j1 jp) tpos] (.BinOp (.Subscript (.Name x2 px2) (.Constant (.int 3) j2 jp2) tpos2) .Add (.Constant (.int 1) j3 jp3) bpos) pos) (sBox3 i) :=
  ps_weak (ps_asg (pe_op op_add (pe_ix ix_list hx2 pe_int (fun _ _ => rfl)) pe_int) (pg_sub hx pe_int set_list ha) hs hw h1) fun D σ H ⟨A, B, F, ε, E, n, r, bx, hn, ⟨hc, p⟩, k1, _⟩ => by
    obtain ⟨b, vs, hb, h2, h3, g, q, m, l, e, a1, a2, a3, a4, a5⟩ := cell_at r bx hc
    subst e
    refine ⟨_, h2, b, _, 3, .int l, rfl, rfl, SqL.of h3, rfl, l, 1, rfl, rfl, _, h2, b, _, 3, 3, rfl, rfl, h3, rfl, ?_⟩
    have hv : BoxV [.int g, .bl q, .int m, .int (l + 1)] (n + 1) := ⟨g, q, m, l + 1, rfl, a1, a2, a3, by omega, by omega⟩
    obtain ⟨r2, g2⟩ := box_write (n := n) (n' := n + 1) r hb hv fun k hk => by
      intro a ha
      rw [hb] at ha
      cases ha
      obtain ⟨ws, w1, g0, q0, m0, l0, w2, w3, w4, w5, w6, w7⟩ := hk b hb
      rw [h3] at w1
      cases w1
      cases w2
      exact ⟨_, upd_same, _, _, _, _, rfl, w3, w4, w5, by omega, by omega⟩
    exact k1 F _ σ ε (g2.mono (by omega)) r2 p
@[simp] theorem u_dBox {k : Nat} {ε : Ev} {P : Dat → Prop} : dBox i k ε P = (ε[i]? = some (.val .cell) ∧ boxR k P) := rfl
@[simp] theorem u_sBox0 {E : DE} {ε : Ev} : sBox0 i T E ε = T ε fun d => ∃ g : Int, d = .int g ∧ 0 ≤ g ∧ ε[i]? = some (.val .cell) ∧ E.nx ε := rfl
@[simp] theorem u_sBox3 {E : DE} {ε : Ev} : sBox3 i E ε = (ε[i]? = some (.val .cell) ∧ E.nx ε) := rfl
@[simp] theorem u_b0 {P : Dat → Prop} : boxR 0 P = ∀ g : Int, 0 ≤ g → P (.int g) := rfl
@[simp] theorem u_b1 {P : Dat → Prop} : boxR 1 P = ∀ b : Bool, P (.bl b) := rfl
@[simp] theorem u_b2 {P : Dat → Prop} : boxR 2 P = ∀ m : Int, 0 ≤ m → m < 2147483647 → P (.int m) := rfl
@[simp] theorem u_b3 {P : Dat → Prop} : boxR 3 P = ∀ l : Int, 0 ≤ l → l ≤ CAP → P (.int l) := rfl
end
end DL
/-! M1: whom a right takes: greedy by the ranking, with seats and limits for groups. -/
namespace M90
def grd (gp : Nat → Nat) : List Nat → Nat → (Nat → Nat) → (Nat → Bool) → List Nat
  | [], _, _, _ => []
  | l :: ρ, s, lim, S => if (S l && decide (0 < s) && decide (0 < lim (gp l))) = true then l :: grd gp ρ (s - 1) (fun g => if g = gp l then lim g - 1 else lim g) S else grd gp ρ s lim S
variable {gp : Nat → Nat}
theorem grd_sub {ρ : List Nat} {s : Nat} {lim : Nat → Nat} {S : Nat → Bool} {l : Nat} (h : l ∈ grd gp ρ s lim S) : l ∈ ρ ∧ S l = true := by
  induction ρ generalizing s lim with
  | nil => simp [grd] at h
  | cons a ρ ih =>
    unfold grd at h
    split at h
    · rename_i hc
      simp only [Bool.and_eq_true] at hc
      rcases List.mem_cons.mp h with e | h
      · subst e; exact ⟨by simp, hc.1.1⟩
      · have := ih h; exact ⟨by simp [this.1], this.2⟩
    · have := ih h; exact ⟨by simp [this.1], this.2⟩
theorem grd_sublist {ρ : List Nat} {s : Nat} {lim : Nat → Nat} {S : Nat → Bool} : (grd gp ρ s lim S).Sublist ρ := by
  induction ρ generalizing s lim with
  | nil => simp [grd]
  | cons a ρ ih =>
    unfold grd
    split
    · exact (ih).cons₂ a
    · exact (ih).cons a
theorem grd_nodup {ρ : List Nat} (h : ρ.Nodup) {s : Nat} {lim : Nat → Nat} {S : Nat → Bool} : (grd gp ρ s lim S).Nodup := grd_sublist.nodup h
theorem grd_len {ρ : List Nat} {s : Nat} {lim : Nat → Nat} {S : Nat → Bool} : (grd gp ρ s lim S).length ≤ s := by
  induction ρ generalizing s lim with
  | nil => simp [grd]
  | cons a ρ ih =>
    unfold grd
    split
    · rename_i hc
      simp only [Bool.and_eq_true, decide_eq_true_eq] at hc
      have := @ih (s - 1) (fun g => if g = gp a then lim g - 1 else lim g)
      simp
      omega
    · exact ih
theorem grd_zero {ρ : List Nat} {lim : Nat → Nat} {S : Nat → Bool} : grd gp ρ 0 lim S = [] := List.eq_nil_of_length_eq_zero (by have := @grd_len gp ρ 0 lim S; omega)
/-- what is taken of more is taken of less -/
theorem grd_congr {ρ : List Nat} {s : Nat} {lim lim' : Nat → Nat} {S S' : Nat → Bool} (h : ∀ l ∈ ρ, S l = S' l) (h' : ∀ l ∈ ρ, lim (gp l) = lim' (gp l)) : grd gp ρ s lim S = grd gp ρ s lim' S' := by
  induction ρ generalizing s lim lim' with
  | nil => rfl
  | cons a ρ ih =>
    unfold grd
    rw [h a (by simp), h' a (by simp)]
    split
    · rw [ih (fun l hl => h l (by simp [hl])) fun l hl => ?_]
      by_cases e : gp l = gp a
      · simp only [e, if_true]
        rw [h' a (by simp)]
      · simp only [if_neg e]
        exact h' l (by simp [hl])
    · exact ih (fun l hl => h l (by simp [hl])) fun l hl => h' l (by simp [hl])
/-- a sum over the groups below four -/
def s4 (f : Nat → Nat) : Nat := f 0 + f 1 + f 2 + f 3
theorem s4_dec {f : Nat → Nat} {g : Nat} (hg : g < 4) (h : 0 < f g) : s4 (fun x => if x = g then f x - 1 else f x) + 1 = s4 f := by
  unfold s4
  match g, hg with
  | 0, _ => simp; omega
  | 1, _ => simp; omega
  | 2, _ => simp; omega
  | 3, _ => simp; omega
/-- SUB and LAD at once: A within B -/
theorem grd_mono {ρ : List Nat} {sA sB : Nat} {lA lB : Nat → Nat} {A B : Nat → Bool} (hg : ∀ l ∈ ρ, gp l < 4) (hAB : ∀ l, A l = true → B l = true) (hl : ∀ g, lB g ≤ lA g) (hs : sA + s4 lB = sB + s4 lA) :
    (∀ l, l ∈ grd gp ρ sB lB B → A l = true → l ∈ grd gp ρ sA lA A) ∧ (grd gp ρ sA lA A).length + sB ≤ (grd gp ρ sB lB B).length + sA := by
  induction ρ generalizing sA sB lA lB with
  | nil =>
    refine ⟨fun l h => by simp [grd] at h, ?_⟩
    have h0 := hl 0
    have h1 := hl 1
    have h2 := hl 2
    have h3 := hl 3
    unfold s4 at hs
    simp [grd]
    omega
  | cons a ρ ih =>
    by_cases h0 : sB = 0
    · subst h0
      rw [grd_zero]
      refine ⟨fun l h => by simp at h, ?_⟩
      have := @grd_len gp (a :: ρ) sA lA A
      simp
      exact this
    have hle : s4 lB ≤ s4 lA := by
      have h0 := hl 0
      have h1 := hl 1
      have h2 := hl 2
      have h3 := hl 3
      unfold s4
      omega
    have hga := hg a (by simp)
    have hg' : ∀ l ∈ ρ, gp l < 4 := fun l h => hg l (by simp [h])
    unfold grd
    by_cases hB : (B a && decide (0 < sB) && decide (0 < lB (gp a))) = true
    · rw [if_pos hB]
      simp only [Bool.and_eq_true, decide_eq_true_eq] at hB
      have hlb := s4_dec hga hB.2
      by_cases hA : A a = true
      · have hA' : (A a && decide (0 < sA) && decide (0 < lA (gp a))) = true := by
          simp only [Bool.and_eq_true, decide_eq_true_eq]
          have := hl (gp a)
          exact ⟨⟨hA, by omega⟩, by omega⟩
        rw [if_pos hA']
        simp only [Bool.and_eq_true, decide_eq_true_eq] at hA'
        have hla := s4_dec hga hA'.2
        obtain ⟨i1, i2⟩ := ih (sA := sA - 1) (sB := sB - 1) (lA := fun g => if g = gp a then lA g - 1 else lA g) (lB := fun g => if g = gp a then lB g - 1 else lB g) hg' (fun g => by have := hl g; split <;> omega) (by omega)
        refine ⟨fun l h hl => ?_, by simp; omega⟩
        rcases List.mem_cons.mp h with e | h
        · subst e; simp
        · exact List.mem_cons_of_mem _ (i1 l h hl)
      · have hA' : ¬ (A a && decide (0 < sA) && decide (0 < lA (gp a))) = true := by simp [hA]
        rw [if_neg hA']
        obtain ⟨i1, i2⟩ := ih (sA := sA) (sB := sB - 1) (lA := lA) (lB := fun g => if g = gp a then lB g - 1 else lB g) hg' (fun g => by have := hl g; split <;> omega) (by omega)
        refine ⟨fun l h hl => ?_, by simp; omega⟩
        rcases List.mem_cons.mp h with e | h
        · subst e; exact absurd hl hA
        · exact i1 l h hl
    · rw [if_neg hB]
      by_cases hA : (A a && decide (0 < sA) && decide (0 < lA (gp a))) = true
      · rw [if_pos hA]
        simp only [Bool.and_eq_true, decide_eq_true_eq] at hA
        have hB0 : lB (gp a) = 0 := by
          simp only [Bool.and_eq_true, decide_eq_true_eq] at hB
          have := hAB a hA.1.1
          cases e : lB (gp a) with
          | zero => rfl
          | succ n => exact (hB ⟨⟨this, by omega⟩, by omega⟩).elim
        have hla := s4_dec hga hA.2
        obtain ⟨i1, i2⟩ := ih (sA := sA - 1) (sB := sB) (lA := fun g => if g = gp a then lA g - 1 else lA g) (lB := lB) hg' (fun g => by
          have := hl g
          show lB g ≤ if g = gp a then lA g - 1 else lA g
          split
          · rename_i e; subst e; omega
          · exact this) (by omega)
        refine ⟨fun l h hl => List.mem_cons_of_mem _ (i1 l h hl), by simp; omega⟩
      · rw [if_neg hA]
        exact ih hg' hl hs
/-- what is left out may go (IRC) -/
theorem grd_irc {ρ : List Nat} {s : Nat} {lim : Nat → Nat} {A B : Nat → Bool} (hAB : ∀ l, A l = true → B l = true) (h : ∀ l, l ∈ grd gp ρ s lim B → A l = true) : grd gp ρ s lim A = grd gp ρ s lim B := by
  induction ρ generalizing s lim with
  | nil => rfl
  | cons a ρ ih =>
    unfold grd at h ⊢
    by_cases hB : (B a && decide (0 < s) && decide (0 < lim (gp a))) = true
    · rw [if_pos hB] at h
      have hA : A a = true := h a (by simp)
      simp only [Bool.and_eq_true, decide_eq_true_eq] at hB
      rw [if_pos (by simp only [Bool.and_eq_true, decide_eq_true_eq]; exact ⟨⟨hA, hB.1.2⟩, hB.2⟩), if_pos (by simp only [Bool.and_eq_true, decide_eq_true_eq]; exact hB)]
      rw [ih fun l hl => h l (by simp [hl])]
    · rw [if_neg hB] at h ⊢
      have hA : ¬ (A a && decide (0 < s) && decide (0 < lim (gp a))) = true := by
        intro hA
        simp only [Bool.and_eq_true, decide_eq_true_eq] at hA hB
        exact hB ⟨⟨hAB a hA.1.1, hA.1.2⟩, hA.2⟩
      rw [if_neg hA]
      exact ih h
/-- one seat more -/
theorem grd_seat {ρ : List Nat} {s : Nat} {lim : Nat → Nat} {A : Nat → Bool} {l : Nat} (h : l ∈ grd gp ρ s lim A) : l ∈ grd gp ρ (s + 1) lim A := by
  induction ρ generalizing s lim with
  | nil => simp [grd] at h
  | cons a ρ ih =>
    unfold grd at h ⊢
    by_cases hB : (A a && decide (0 < s) && decide (0 < lim (gp a))) = true
    · rw [if_pos hB] at h
      simp only [Bool.and_eq_true, decide_eq_true_eq] at hB
      rw [if_pos (by simp only [Bool.and_eq_true, decide_eq_true_eq]; exact ⟨⟨hB.1.1, by omega⟩, hB.2⟩)]
      rcases List.mem_cons.mp h with e | h
      · subst e; simp
      · have := ih h
        rw [show s - 1 + 1 = s + 1 - 1 by omega] at this
        exact List.mem_cons_of_mem _ this
    · rw [if_neg hB] at h
      by_cases h0 : s = 0
      · subst h0; rw [grd_zero] at h; simp at h
      · have hB' : ¬ (A a && decide (0 < s + 1) && decide (0 < lim (gp a))) = true := by
          intro q
          simp only [Bool.and_eq_true, decide_eq_true_eq] at q hB
          exact hB ⟨⟨q.1.1, by omega⟩, q.2⟩
        rw [if_neg hB']
        exact ih h
/-- sorted lists of the same members -/
theorem sorted_unique {n : Nat} : ∀ {xs ys : List Nat}, xs.Pairwise (· ≤ ·) → ys.Pairwise (· ≤ ·) → xs.Perm ys → xs = ys
  | [], ys, _, _, h => (List.nil_perm.mp h).symm ▸ rfl
  | x :: xs, [], _, _, h => by simp at h
  | x :: xs, y :: ys, h1, h2, h => by
    have e : x = y := by
      rw [List.pairwise_cons] at h1 h2
      have a1 : x ∈ y :: ys := h.mem_iff.mp (by simp)
      have a2 : y ∈ x :: xs := h.mem_iff.mpr (by simp)
      rcases List.mem_cons.mp a1 with e | m1
      · exact e
      · rcases List.mem_cons.mp a2 with e | m2
        · exact e.symm
        · have := h1.1 y m2
          have := h2.1 x m1
          omega
    subst e
    rw [sorted_unique (n := n) h1.of_cons h2.of_cons ((List.perm_cons x).mp h)]
end M90
set_option maxRecDepth 100000
set_option maxHeartbeats 4000000
/-! The facts of the program's text, printed by genfx.py. -/
namespace K90
open PySem PySem.Spec PyProof.Rows L2 RZ C8 DL
def topS (i : Nat) : Stmt := PySem.Challenge.pw_thingsclear_k90_whole_seats_are_rights_o.main.body.getD i (.Pass ⟨0, 0, 0, 0⟩)
abbrev FnP (K : PySem.W.Frag) (x : Str) (st : Stmt) (f : Addr) (fd : FuncData) : Prop := FunD K x x (defArgs st) (defBody st) (defScope st) [] [] f fd
abbrev FnM (K : PySem.W.Frag) (C : String) (st : Stmt) (f : Addr) (fd : FuncData) : Prop := FunD K "__init__" (C ++ ".__init__" : String) (defArgs st) (defBody st) (defScope st) [] [] f fd
abbrev s_is_whole : Stmt := topS 15
abbrev s_is_below : Stmt := topS 18
abbrev s_is_ranking : Stmt := topS 19
abbrev s_are_rankings : Stmt := topS 20
abbrev s_check_rankings : Stmt := topS 21
abbrev s_check_sides : Stmt := topS 23
abbrev s_does_fit : Stmt := topS 24
abbrev s_is_above : Stmt := topS 25
abbrev s_offered : Stmt := topS 26
abbrev s_lefts_best : Stmt := topS 27
abbrev s_rights_best : Stmt := topS 28
abbrev s_best_for_lefts : Stmt := topS 29
abbrev s_best_for_rights : Stmt := topS 30
abbrev s_always_paired : Stmt := topS 31
abbrev s_are_counts : Stmt := topS 35
abbrev s_check_places : Stmt := topS 37
abbrev s_check_right : Stmt := topS 38
abbrev s_taken_of : Stmt := topS 39
abbrev s_members_of : Stmt := topS 40
abbrev s_is_outcome : Stmt := topS 41
abbrev s_blocks_in : Stmt := topS 42
abbrev s_blocking_seats : Stmt := topS 43
abbrev s_is_stable_outcome : Stmt := topS 44
abbrev s_outcome_of : Stmt := topS 45
abbrev s_best_of : Stmt := topS 46
abbrev s_best_seats : Stmt := topS 47
abbrev s_offers_of : Stmt := topS 48
abbrev s_worst_of : Stmt := topS 49
abbrev s_worst_seats : Stmt := topS 50
abbrev s_seated : Stmt := topS 52
abbrev s_with_seat : Stmt := topS 53
abbrev s_exchanged : Stmt := topS 54
abbrev s_by_lie : Stmt := topS 55
abbrev s__law_cell : Stmt := topS 57
abbrev s__law_box : Stmt := topS 58
abbrev s__law_take : Stmt := topS 59
abbrev s__law_row : Stmt := topS 60
abbrev s__law_same : Stmt := topS 61
abbrev s__law_mixed : Stmt := topS 62
abbrev s__law_rankings : Stmt := topS 63
abbrev s__law_prefers : Stmt := topS 64
abbrev s__law_blocks : Stmt := topS 65
abbrev s__law_split : Stmt := topS 66
abbrev s__law_seats_right : Stmt := topS 67
abbrev s__law_groups_right : Stmt := topS 68
abbrev s__law_more_right : Stmt := topS 69
abbrev s_law : Stmt := topS 70
abbrev si_Sides : Stmt := inClass (topS 22) 0
abbrev si_Places : Stmt := inClass (topS 36) 0
structure Fx (K : PySem.W.Frag) (mg : Str → Option Value) where
  f_is_whole : Addr
  fd_is_whole : FuncData
  F_is_whole : FnP K "is_whole" s_is_whole f_is_whole fd_is_whole
  g_is_whole : mg "is_whole" = some (.ref f_is_whole)
  f_is_below : Addr
  fd_is_below : FuncData
  F_is_below : FnP K "is_below" s_is_below f_is_below fd_is_below
  g_is_below : mg "is_below" = some (.ref f_is_below)
  f_is_ranking : Addr
  fd_is_ranking : FuncData
  F_is_ranking : FnP K "is_ranking" s_is_ranking f_is_ranking fd_is_ranking
  g_is_ranking : mg "is_ranking" = some (.ref f_is_ranking)
  f_are_rankings : Addr
  fd_are_rankings : FuncData
  F_are_rankings : FnP K "are_rankings" s_are_rankings f_are_rankings fd_are_rankings
  g_are_rankings : mg "are_rankings" = some (.ref f_are_rankings)
  f_check_rankings : Addr
  fd_check_rankings : FuncData
  F_check_rankings : FnP K "check_rankings" s_check_rankings f_check_rankings fd_check_rankings
  g_check_rankings : mg "check_rankings" = some (.ref f_check_rankings)
  f_check_sides : Addr
  fd_check_sides : FuncData
  F_check_sides : FnP K "check_sides" s_check_sides f_check_sides fd_check_sides
  g_check_sides : mg "check_sides" = some (.ref f_check_sides)
  f_does_fit : Addr
  fd_does_fit : FuncData
  F_does_fit : FnP K "does_fit" s_does_fit f_does_fit fd_does_fit
  g_does_fit : mg "does_fit" = some (.ref f_does_fit)
  f_is_above : Addr
  fd_is_above : FuncData
  F_is_above : FnP K "is_above" s_is_above f_is_above fd_is_above
  g_is_above : mg "is_above" = some (.ref f_is_above)
  f_offered : Addr
  fd_offered : FuncData
  F_offered : FnP K "offered" s_offered f_offered fd_offered
  g_offered : mg "offered" = some (.ref f_offered)
  f_lefts_best : Addr
  fd_lefts_best : FuncData
  F_lefts_best : FnP K "lefts_best" s_lefts_best f_lefts_best fd_lefts_best
  g_lefts_best : mg "lefts_best" = some (.ref f_lefts_best)
  f_rights_best : Addr
  fd_rights_best : FuncData
  F_rights_best : FnP K "rights_best" s_rights_best f_rights_best fd_rights_best
  g_rights_best : mg "rights_best" = some (.ref f_rights_best)
  f_best_for_lefts : Addr
  fd_best_for_lefts : FuncData
  F_best_for_lefts : FnP K "best_for_lefts" s_best_for_lefts f_best_for_lefts fd_best_for_lefts
  g_best_for_lefts : mg "best_for_lefts" = some (.ref f_best_for_lefts)
  f_best_for_rights : Addr
  fd_best_for_rights : FuncData
  F_best_for_rights : FnP K "best_for_rights" s_best_for_rights f_best_for_rights fd_best_for_rights
  g_best_for_rights : mg "best_for_rights" = some (.ref f_best_for_rights)
  f_always_paired : Addr
  fd_always_paired : FuncData
  F_always_paired : FnP K "always_paired" s_always_paired f_always_paired fd_always_paired
  g_always_paired : mg "always_paired" = some (.ref f_always_paired)
  f_are_counts : Addr
  fd_are_counts : FuncData
  F_are_counts : FnP K "are_counts" s_are_counts f_are_counts fd_are_counts
  g_are_counts : mg "are_counts" = some (.ref f_are_counts)
  f_check_places : Addr
  fd_check_places : FuncData
  F_check_places : FnP K "check_places" s_check_places f_check_places fd_check_places
  g_check_places : mg "check_places" = some (.ref f_check_places)
  f_check_right : Addr
  fd_check_right : FuncData
  F_check_right : FnP K "check_right" s_check_right f_check_right fd_check_right
  g_check_right : mg "check_right" = some (.ref f_check_right)
  f_taken_of : Addr
  fd_taken_of : FuncData
  F_taken_of : FnP K "taken_of" s_taken_of f_taken_of fd_taken_of
  g_taken_of : mg "taken_of" = some (.ref f_taken_of)
  f_members_of : Addr
  fd_members_of : FuncData
  F_members_of : FnP K "members_of" s_members_of f_members_of fd_members_of
  g_members_of : mg "members_of" = some (.ref f_members_of)
  f_is_outcome : Addr
  fd_is_outcome : FuncData
  F_is_outcome : FnP K "is_outcome" s_is_outcome f_is_outcome fd_is_outcome
  g_is_outcome : mg "is_outcome" = some (.ref f_is_outcome)
  f_blocks_in : Addr
  fd_blocks_in : FuncData
  F_blocks_in : FnP K "blocks_in" s_blocks_in f_blocks_in fd_blocks_in
  g_blocks_in : mg "blocks_in" = some (.ref f_blocks_in)
  f_blocking_seats : Addr
  fd_blocking_seats : FuncData
  F_blocking_seats : FnP K "blocking_seats" s_blocking_seats f_blocking_seats fd_blocking_seats
  g_blocking_seats : mg "blocking_seats" = some (.ref f_blocking_seats)
  f_is_stable_outcome : Addr
  fd_is_stable_outcome : FuncData
  F_is_stable_outcome : FnP K "is_stable_outcome" s_is_stable_outcome f_is_stable_outcome fd_is_stable_outcome
  g_is_stable_outcome : mg "is_stable_outcome" = some (.ref f_is_stable_outcome)
  f_outcome_of : Addr
  fd_outcome_of : FuncData
  F_outcome_of : FnP K "outcome_of" s_outcome_of f_outcome_of fd_outcome_of
  g_outcome_of : mg "outcome_of" = some (.ref f_outcome_of)
  f_best_of : Addr
  fd_best_of : FuncData
  F_best_of : FnP K "best_of" s_best_of f_best_of fd_best_of
  g_best_of : mg "best_of" = some (.ref f_best_of)
  f_best_seats : Addr
  fd_best_seats : FuncData
  F_best_seats : FnP K "best_seats" s_best_seats f_best_seats fd_best_seats
  g_best_seats : mg "best_seats" = some (.ref f_best_seats)
  f_offers_of : Addr
  fd_offers_of : FuncData
  F_offers_of : FnP K "offers_of" s_offers_of f_offers_of fd_offers_of
  g_offers_of : mg "offers_of" = some (.ref f_offers_of)
  f_worst_of : Addr
  fd_worst_of : FuncData
  F_worst_of : FnP K "worst_of" s_worst_of f_worst_of fd_worst_of
  g_worst_of : mg "worst_of" = some (.ref f_worst_of)
  f_worst_seats : Addr
  fd_worst_seats : FuncData
  F_worst_seats : FnP K "worst_seats" s_worst_seats f_worst_seats fd_worst_seats
  g_worst_seats : mg "worst_seats" = some (.ref f_worst_seats)
  f_seated : Addr
  fd_seated : FuncData
  F_seated : FnP K "seated" s_seated f_seated fd_seated
  g_seated : mg "seated" = some (.ref f_seated)
  f_with_seat : Addr
  fd_with_seat : FuncData
  F_with_seat : FnP K "with_seat" s_with_seat f_with_seat fd_with_seat
  g_with_seat : mg "with_seat" = some (.ref f_with_seat)
  f_exchanged : Addr
  fd_exchanged : FuncData
  F_exchanged : FnP K "exchanged" s_exchanged f_exchanged fd_exchanged
  g_exchanged : mg "exchanged" = some (.ref f_exchanged)
  f_by_lie : Addr
  fd_by_lie : FuncData
  F_by_lie : FnP K "by_lie" s_by_lie f_by_lie fd_by_lie
  g_by_lie : mg "by_lie" = some (.ref f_by_lie)
  f__law_cell : Addr
  fd__law_cell : FuncData
  F__law_cell : FnP K "_law_cell" s__law_cell f__law_cell fd__law_cell
  g__law_cell : mg "_law_cell" = some (.ref f__law_cell)
  f__law_box : Addr
  fd__law_box : FuncData
  F__law_box : FnP K "_law_box" s__law_box f__law_box fd__law_box
  g__law_box : mg "_law_box" = some (.ref f__law_box)
  f__law_take : Addr
  fd__law_take : FuncData
  F__law_take : FnP K "_law_take" s__law_take f__law_take fd__law_take
  g__law_take : mg "_law_take" = some (.ref f__law_take)
  f__law_row : Addr
  fd__law_row : FuncData
  F__law_row : FnP K "_law_row" s__law_row f__law_row fd__law_row
  g__law_row : mg "_law_row" = some (.ref f__law_row)
  f__law_same : Addr
  fd__law_same : FuncData
  F__law_same : FnP K "_law_same" s__law_same f__law_same fd__law_same
  g__law_same : mg "_law_same" = some (.ref f__law_same)
  f__law_mixed : Addr
  fd__law_mixed : FuncData
  F__law_mixed : FnP K "_law_mixed" s__law_mixed f__law_mixed fd__law_mixed
  g__law_mixed : mg "_law_mixed" = some (.ref f__law_mixed)
  f__law_rankings : Addr
  fd__law_rankings : FuncData
  F__law_rankings : FnP K "_law_rankings" s__law_rankings f__law_rankings fd__law_rankings
  g__law_rankings : mg "_law_rankings" = some (.ref f__law_rankings)
  f__law_prefers : Addr
  fd__law_prefers : FuncData
  F__law_prefers : FnP K "_law_prefers" s__law_prefers f__law_prefers fd__law_prefers
  g__law_prefers : mg "_law_prefers" = some (.ref f__law_prefers)
  f__law_blocks : Addr
  fd__law_blocks : FuncData
  F__law_blocks : FnP K "_law_blocks" s__law_blocks f__law_blocks fd__law_blocks
  g__law_blocks : mg "_law_blocks" = some (.ref f__law_blocks)
  f__law_split : Addr
  fd__law_split : FuncData
  F__law_split : FnP K "_law_split" s__law_split f__law_split fd__law_split
  g__law_split : mg "_law_split" = some (.ref f__law_split)
  f__law_seats_right : Addr
  fd__law_seats_right : FuncData
  F__law_seats_right : FnP K "_law_seats_right" s__law_seats_right f__law_seats_right fd__law_seats_right
  g__law_seats_right : mg "_law_seats_right" = some (.ref f__law_seats_right)
  f__law_groups_right : Addr
  fd__law_groups_right : FuncData
  F__law_groups_right : FnP K "_law_groups_right" s__law_groups_right f__law_groups_right fd__law_groups_right
  g__law_groups_right : mg "_law_groups_right" = some (.ref f__law_groups_right)
  f__law_more_right : Addr
  fd__law_more_right : FuncData
  F__law_more_right : FnP K "_law_more_right" s__law_more_right f__law_more_right fd__law_more_right
  g__law_more_right : mg "_law_more_right" = some (.ref f__law_more_right)
  f_law : Addr
  fd_law : FuncData
  F_law : FnP K "law" s_law f_law fd_law
  g_law : mg "law" = some (.ref f_law)
  C_Sides : Addr
  fi_Sides : Addr
  fdi_Sides : FuncData
  Fi_Sides : FnM K "Sides" si_Sides fi_Sides fdi_Sides
  g_Sides : mg "Sides" = some (.ref C_Sides)
  M_Sides : Mk K C_Sides fi_Sides
  cl_Sides : Cls K C_Sides
  ins_Sides : InsC K C_Sides
  na_Sides_lefts : NoAttr K C_Sides "lefts"
  na_Sides_rights : NoAttr K C_Sides "rights"
  C_Places : Addr
  fi_Places : Addr
  fdi_Places : FuncData
  Fi_Places : FnM K "Places" si_Places fi_Places fdi_Places
  g_Places : mg "Places" = some (.ref C_Places)
  M_Places : Mk K C_Places fi_Places
  cl_Places : Cls K C_Places
  ins_Places : InsC K C_Places
  na_Places_lefts : NoAttr K C_Places "lefts"
  na_Places_rights : NoAttr K C_Places "rights"
  na_Places_seats : NoAttr K C_Places "seats"
  na_Places_groups : NoAttr K C_Places "groups"
  na_Places_limits : NoAttr K C_Places "limits"
  b_len : mg "len" = none
  b_int : mg "int" = none
  b_tuple : mg "tuple" = none
  b_list : mg "list" = none
  b_bool : mg "bool" = none
  b_str : mg "str" = none
  b_dict : mg "dict" = none
  b_set : mg "set" = none
  b_range : mg "range" = none
  b_enumerate : mg "enumerate" = none
  b_zip : mg "zip" = none
  b_max : mg "max" = none
  b_min : mg "min" = none
  b_sum : mg "sum" = none
  b_sorted : mg "sorted" = none
  b_all : mg "all" = none
  b_isinstance : mg "isinstance" = none
  b_abs : mg "abs" = none
  i_MOST_MEMBERS : ∃ t, mg "MOST_MEMBERS" = some (.int 20 t)
  i_MOST_SEATS : ∃ t, mg "MOST_SEATS" = some (.int 20 t)
  i_GROUPS : ∃ t, mg "GROUPS" = some (.int 4 t)
section
variable {K : PySem.W.Frag} {mg : Str → Option Value}
abbrev N_is_whole : List Str := ["value"]
abbrev P_is_whole : List Str := ["value"]
theorem sc_is_whole : FnScope N_is_whole P_is_whole (defScope s_is_whole) := ⟨rfl, rfl, rfl, by decide +kernel, rfl, by decide +kernel, by decide +kernel⟩
theorem b_is_whole (g : Fx K mg) : Binds K g.fd_is_whole P_is_whole [] := g.F_is_whole.bindsN fun _ _ _ _ _ _ us hl => match us, hl with | [_], _ => rfl
abbrev N_is_below : List Str := ["value", "many"]
abbrev P_is_below : List Str := ["value", "many"]
theorem sc_is_below : FnScope N_is_below P_is_below (defScope s_is_below) := ⟨rfl, rfl, rfl, by decide +kernel, rfl, by decide +kernel, by decide +kernel⟩
theorem b_is_below (g : Fx K mg) : Binds K g.fd_is_below P_is_below [] := g.F_is_below.bindsN fun _ _ _ _ _ _ us hl => match us, hl with | [_, _], _ => rfl
abbrev N_is_ranking : List Str := ["value", "many", "member"]
abbrev P_is_ranking : List Str := ["value", "many"]
theorem sc_is_ranking : FnScope N_is_ranking P_is_ranking (defScope s_is_ranking) := ⟨rfl, rfl, rfl, by decide +kernel, rfl, by decide +kernel, by decide +kernel⟩
theorem b_is_ranking (g : Fx K mg) : Binds K g.fd_is_ranking P_is_ranking [] := g.F_is_ranking.bindsN fun _ _ _ _ _ _ us hl => match us, hl with | [_, _], _ => rfl
abbrev N_are_rankings : List Str := ["value", "many", "ranking"]
abbrev P_are_rankings : List Str := ["value", "many"]
theorem sc_are_rankings : FnScope N_are_rankings P_are_rankings (defScope s_are_rankings) := ⟨rfl, rfl, rfl, by decide +kernel, rfl, by decide +kernel, by decide +kernel⟩
theorem b_are_rankings (g : Fx K mg) : Binds K g.fd_are_rankings P_are_rankings [] := g.F_are_rankings.bindsN fun _ _ _ _ _ _ us hl => match us, hl with | [_, _], _ => rfl
abbrev N_check_rankings : List Str := ["lefts", "rights", "most", "ranking", "right"]
abbrev P_check_rankings : List Str := ["lefts", "rights"]
theorem sc_check_rankings : FnScope N_check_rankings P_check_rankings (defScope s_check_rankings) := ⟨rfl, rfl, rfl, by decide +kernel, rfl, by decide +kernel, by decide +kernel⟩
theorem b_check_rankings (g : Fx K mg) : Binds K g.fd_check_rankings P_check_rankings [] := g.F_check_rankings.bindsN fun _ _ _ _ _ _ us hl => match us, hl with | [_, _], _ => rfl
abbrev N_check_sides : List Str := ["sides"]
abbrev P_check_sides : List Str := ["sides"]
theorem sc_check_sides : FnScope N_check_sides P_check_sides (defScope s_check_sides) := ⟨rfl, rfl, rfl, by decide +kernel, rfl, by decide +kernel, by decide +kernel⟩
theorem b_check_sides (g : Fx K mg) : Binds K g.fd_check_sides P_check_sides [] := g.F_check_sides.bindsN fun _ _ _ _ _ _ us hl => match us, hl with | [_], _ => rfl
abbrev N_does_fit : List Str := ["sides", "left", "right"]
abbrev P_does_fit : List Str := ["sides", "left", "right"]
theorem sc_does_fit : FnScope N_does_fit P_does_fit (defScope s_does_fit) := ⟨rfl, rfl, rfl, by decide +kernel, rfl, by decide +kernel, by decide +kernel⟩
theorem b_does_fit (g : Fx K mg) : Binds K g.fd_does_fit P_does_fit [] := g.F_does_fit.bindsN fun _ _ _ _ _ _ us hl => match us, hl with | [_, _, _], _ => rfl
abbrev N_is_above : List Str := ["ranking", "new", "old"]
abbrev P_is_above : List Str := ["ranking", "new", "old"]
theorem sc_is_above : FnScope N_is_above P_is_above (defScope s_is_above) := ⟨rfl, rfl, rfl, by decide +kernel, rfl, by decide +kernel, by decide +kernel⟩
theorem b_is_above (g : Fx K mg) : Binds K g.fd_is_above P_is_above [] := g.F_is_above.bindsN fun _ _ _ _ _ _ us hl => match us, hl with | [_, _, _], _ => rfl
abbrev N_offered : List Str := ["askers", "answerers", "held", "places", "left", "asker", "answerer", "before"]
abbrev P_offered : List Str := ["askers", "answerers"]
theorem sc_offered : FnScope N_offered P_offered (defScope s_offered) := ⟨rfl, rfl, rfl, by decide +kernel, rfl, by decide +kernel, by decide +kernel⟩
theorem b_offered (g : Fx K mg) : Binds K g.fd_offered P_offered [] := g.F_offered.bindsN fun _ _ _ _ _ _ us hl => match us, hl with | [_, _], _ => rfl
abbrev N_lefts_best : List Str := ["sides", "found", "right", "left"]
abbrev P_lefts_best : List Str := ["sides"]
theorem sc_lefts_best : FnScope N_lefts_best P_lefts_best (defScope s_lefts_best) := ⟨rfl, rfl, rfl, by decide +kernel, rfl, by decide +kernel, by decide +kernel⟩
theorem b_lefts_best (g : Fx K mg) : Binds K g.fd_lefts_best P_lefts_best [] := g.F_lefts_best.bindsN fun _ _ _ _ _ _ us hl => match us, hl with | [_], _ => rfl
abbrev N_rights_best : List Str := ["sides"]
abbrev P_rights_best : List Str := ["sides"]
theorem sc_rights_best : FnScope N_rights_best P_rights_best (defScope s_rights_best) := ⟨rfl, rfl, rfl, by decide +kernel, rfl, by decide +kernel, by decide +kernel⟩
theorem b_rights_best (g : Fx K mg) : Binds K g.fd_rights_best P_rights_best [] := g.F_rights_best.bindsN fun _ _ _ _ _ _ us hl => match us, hl with | [_], _ => rfl
abbrev N_best_for_lefts : List Str := ["sides"]
abbrev P_best_for_lefts : List Str := ["sides"]
theorem sc_best_for_lefts : FnScope N_best_for_lefts P_best_for_lefts (defScope s_best_for_lefts) := ⟨rfl, rfl, rfl, by decide +kernel, rfl, by decide +kernel, by decide +kernel⟩
theorem b_best_for_lefts (g : Fx K mg) : Binds K g.fd_best_for_lefts P_best_for_lefts [] := g.F_best_for_lefts.bindsN fun _ _ _ _ _ _ us hl => match us, hl with | [_], _ => rfl
abbrev N_best_for_rights : List Str := ["sides"]
abbrev P_best_for_rights : List Str := ["sides"]
theorem sc_best_for_rights : FnScope N_best_for_rights P_best_for_rights (defScope s_best_for_rights) := ⟨rfl, rfl, rfl, by decide +kernel, rfl, by decide +kernel, by decide +kernel⟩
theorem b_best_for_rights (g : Fx K mg) : Binds K g.fd_best_for_rights P_best_for_rights [] := g.F_best_for_rights.bindsN fun _ _ _ _ _ _ us hl => match us, hl with | [_], _ => rfl
abbrev N_always_paired : List Str := ["sides", "pairing", "lefts", "left", "right"]
abbrev P_always_paired : List Str := ["sides"]
theorem sc_always_paired : FnScope N_always_paired P_always_paired (defScope s_always_paired) := ⟨rfl, rfl, rfl, by decide +kernel, rfl, by decide +kernel, by decide +kernel⟩
theorem b_always_paired (g : Fx K mg) : Binds K g.fd_always_paired P_always_paired [] := g.F_always_paired.bindsN fun _ _ _ _ _ _ us hl => match us, hl with | [_], _ => rfl
abbrev N_are_counts : List Str := ["value", "many", "most", "item"]
abbrev P_are_counts : List Str := ["value", "many", "most"]
theorem sc_are_counts : FnScope N_are_counts P_are_counts (defScope s_are_counts) := ⟨rfl, rfl, rfl, by decide +kernel, rfl, by decide +kernel, by decide +kernel⟩
theorem b_are_counts (g : Fx K mg) : Binds K g.fd_are_counts P_are_counts [] := g.F_are_counts.bindsN fun _ _ _ _ _ _ us hl => match us, hl with | [_, _, _], _ => rfl
abbrev N_check_places : List Str := ["places"]
abbrev P_check_places : List Str := ["places"]
theorem sc_check_places : FnScope N_check_places P_check_places (defScope s_check_places) := ⟨rfl, rfl, rfl, by decide +kernel, rfl, by decide +kernel, by decide +kernel⟩
theorem b_check_places (g : Fx K mg) : Binds K g.fd_check_places P_check_places [] := g.F_check_places.bindsN fun _ _ _ _ _ _ us hl => match us, hl with | [_], _ => rfl
abbrev N_check_right : List Str := ["sides", "right"]
abbrev P_check_right : List Str := ["sides", "right"]
theorem sc_check_right : FnScope N_check_right P_check_right (defScope s_check_right) := ⟨rfl, rfl, rfl, by decide +kernel, rfl, by decide +kernel, by decide +kernel⟩
theorem b_check_right (g : Fx K mg) : Binds K g.fd_check_right P_check_right [] := g.F_check_right.bindsN fun _ _ _ _ _ _ us hl => match us, hl with | [_, _], _ => rfl
abbrev N_taken_of : List Str := ["places", "right", "members", "counts", "found", "left", "group"]
abbrev P_taken_of : List Str := ["places", "right", "members"]
theorem sc_taken_of : FnScope N_taken_of P_taken_of (defScope s_taken_of) := ⟨rfl, rfl, rfl, by decide +kernel, rfl, by decide +kernel, by decide +kernel⟩
theorem b_taken_of (g : Fx K mg) : Binds K g.fd_taken_of P_taken_of [] := g.F_taken_of.bindsN fun _ _ _ _ _ _ us hl => match us, hl with | [_, _, _], _ => rfl
abbrev N_members_of : List Str := ["outcome", "right", "left", "own"]
abbrev P_members_of : List Str := ["outcome", "right"]
theorem sc_members_of : FnScope N_members_of P_members_of (defScope s_members_of) := ⟨rfl, rfl, rfl, by decide +kernel, rfl, by decide +kernel, by decide +kernel⟩
theorem b_members_of (g : Fx K mg) : Binds K g.fd_members_of P_members_of [] := g.F_members_of.bindsN fun _ _ _ _ _ _ us hl => match us, hl with | [_, _], _ => rfl
abbrev N_is_outcome : List Str := ["places", "value", "rows", "right", "members", "left"]
abbrev P_is_outcome : List Str := ["places", "value"]
theorem sc_is_outcome : FnScope N_is_outcome P_is_outcome (defScope s_is_outcome) := ⟨rfl, rfl, rfl, by decide +kernel, rfl, by decide +kernel, by decide +kernel⟩
theorem b_is_outcome (g : Fx K mg) : Binds K g.fd_is_outcome P_is_outcome [] := g.F_is_outcome.bindsN fun _ _ _ _ _ _ us hl => match us, hl with | [_, _], _ => rfl
abbrev N_blocks_in : List Str := ["places", "outcome", "found", "left", "ranking", "right"]
abbrev P_blocks_in : List Str := ["places", "outcome"]
theorem sc_blocks_in : FnScope N_blocks_in P_blocks_in (defScope s_blocks_in) := ⟨rfl, rfl, rfl, by decide +kernel, rfl, by decide +kernel, by decide +kernel⟩
theorem b_blocks_in (g : Fx K mg) : Binds K g.fd_blocks_in P_blocks_in [] := g.F_blocks_in.bindsN fun _ _ _ _ _ _ us hl => match us, hl with | [_, _], _ => rfl
abbrev N_blocking_seats : List Str := ["places", "outcome"]
abbrev P_blocking_seats : List Str := ["places", "outcome"]
theorem sc_blocking_seats : FnScope N_blocking_seats P_blocking_seats (defScope s_blocking_seats) := ⟨rfl, rfl, rfl, by decide +kernel, rfl, by decide +kernel, by decide +kernel⟩
theorem b_blocking_seats (g : Fx K mg) : Binds K g.fd_blocking_seats P_blocking_seats [] := g.F_blocking_seats.bindsN fun _ _ _ _ _ _ us hl => match us, hl with | [_, _], _ => rfl
abbrev N_is_stable_outcome : List Str := ["places", "value"]
abbrev P_is_stable_outcome : List Str := ["places", "value"]
theorem sc_is_stable_outcome : FnScope N_is_stable_outcome P_is_stable_outcome (defScope s_is_stable_outcome) := ⟨rfl, rfl, rfl, by decide +kernel, rfl, by decide +kernel, by decide +kernel⟩
theorem b_is_stable_outcome (g : Fx K mg) : Binds K g.fd_is_stable_outcome P_is_stable_outcome [] := g.F_is_stable_outcome.bindsN fun _ _ _ _ _ _ us hl => match us, hl with | [_, _], _ => rfl
abbrev N_outcome_of : List Str := ["places", "held", "found", "right", "members", "left"]
abbrev P_outcome_of : List Str := ["places", "held"]
theorem sc_outcome_of : FnScope N_outcome_of P_outcome_of (defScope s_outcome_of) := ⟨rfl, rfl, rfl, by decide +kernel, rfl, by decide +kernel, by decide +kernel⟩
theorem b_outcome_of (g : Fx K mg) : Binds K g.fd_outcome_of P_outcome_of [] := g.F_outcome_of.bindsN fun _ _ _ _ _ _ us hl => match us, hl with | [_, _], _ => rfl
abbrev N_best_of : List Str := ["places", "held", "at", "waiting", "left", "right", "before", "_", "one"]
abbrev P_best_of : List Str := ["places"]
theorem sc_best_of : FnScope N_best_of P_best_of (defScope s_best_of) := ⟨rfl, rfl, rfl, by decide +kernel, rfl, by decide +kernel, by decide +kernel⟩
theorem b_best_of (g : Fx K mg) : Binds K g.fd_best_of P_best_of [] := g.F_best_of.bindsN fun _ _ _ _ _ _ us hl => match us, hl with | [_], _ => rfl
abbrev N_best_seats : List Str := ["places"]
abbrev P_best_seats : List Str := ["places"]
theorem sc_best_seats : FnScope N_best_seats P_best_seats (defScope s_best_seats) := ⟨rfl, rfl, rfl, by decide +kernel, rfl, by decide +kernel, by decide +kernel⟩
theorem b_best_seats (g : Fx K mg) : Binds K g.fd_best_seats P_best_seats [] := g.F_best_seats.bindsN fun _ _ _ _ _ _ us hl => match us, hl with | [_], _ => rfl
abbrev N_offers_of : List Str := ["places", "refused", "found", "right", "ranking", "open_to", "left"]
abbrev P_offers_of : List Str := ["places", "refused"]
theorem sc_offers_of : FnScope N_offers_of P_offers_of (defScope s_offers_of) := ⟨rfl, rfl, rfl, by decide +kernel, rfl, by decide +kernel, by decide +kernel⟩
theorem b_offers_of (g : Fx K mg) : Binds K g.fd_offers_of P_offers_of [] := g.F_offers_of.bindsN fun _ _ _ _ _ _ us hl => match us, hl with | [_, _], _ => rfl
abbrev N_worst_of : List Str := ["places", "refused", "new", "offers", "kept", "left", "ranking", "mine", "right"]
abbrev P_worst_of : List Str := ["places"]
theorem sc_worst_of : FnScope N_worst_of P_worst_of (defScope s_worst_of) := ⟨rfl, rfl, rfl, by decide +kernel, rfl, by decide +kernel, by decide +kernel⟩
theorem b_worst_of (g : Fx K mg) : Binds K g.fd_worst_of P_worst_of [] := g.F_worst_of.bindsN fun _ _ _ _ _ _ us hl => match us, hl with | [_], _ => rfl
abbrev N_worst_seats : List Str := ["places"]
abbrev P_worst_seats : List Str := ["places"]
theorem sc_worst_seats : FnScope N_worst_seats P_worst_seats (defScope s_worst_seats) := ⟨rfl, rfl, rfl, by decide +kernel, rfl, by decide +kernel, by decide +kernel⟩
theorem b_worst_seats (g : Fx K mg) : Binds K g.fd_worst_seats P_worst_seats [] := g.F_worst_seats.bindsN fun _ _ _ _ _ _ us hl => match us, hl with | [_], _ => rfl
abbrev N_seated : List Str := ["places", "outcome", "lefts", "left", "right"]
abbrev P_seated : List Str := ["places"]
theorem sc_seated : FnScope N_seated P_seated (defScope s_seated) := ⟨rfl, rfl, rfl, by decide +kernel, rfl, by decide +kernel, by decide +kernel⟩
theorem b_seated (g : Fx K mg) : Binds K g.fd_seated P_seated [] := g.F_seated.bindsN fun _ _ _ _ _ _ us hl => match us, hl with | [_], _ => rfl
abbrev N_with_seat : List Str := ["places", "right", "seats", "at", "count"]
abbrev P_with_seat : List Str := ["places", "right"]
theorem sc_with_seat : FnScope N_with_seat P_with_seat (defScope s_with_seat) := ⟨rfl, rfl, rfl, by decide +kernel, rfl, by decide +kernel, by decide +kernel⟩
theorem b_with_seat (g : Fx K mg) : Binds K g.fd_with_seat P_with_seat [] := g.F_with_seat.bindsN fun _ _ _ _ _ _ us hl => match us, hl with | [_, _], _ => rfl
abbrev N_exchanged : List Str := ["rows", "at", "row"]
abbrev P_exchanged : List Str := ["rows", "at", "row"]
theorem sc_exchanged : FnScope N_exchanged P_exchanged (defScope s_exchanged) := ⟨rfl, rfl, rfl, by decide +kernel, rfl, by decide +kernel, by decide +kernel⟩
theorem b_exchanged (g : Fx K mg) : Binds K g.fd_exchanged P_exchanged [] := g.F_exchanged.bindsN fun _ _ _ _ _ _ us hl => match us, hl with | [_, _, _], _ => rfl
abbrev N_by_lie : List Str := ["places", "left", "ranking", "lefts", "other"]
abbrev P_by_lie : List Str := ["places", "left", "ranking"]
theorem sc_by_lie : FnScope N_by_lie P_by_lie (defScope s_by_lie) := ⟨rfl, rfl, rfl, by decide +kernel, rfl, by decide +kernel, by decide +kernel⟩
theorem b_by_lie (g : Fx K mg) : Binds K g.fd_by_lie P_by_lie [] := g.F_by_lie.bindsN fun _ _ _ _ _ _ us hl => match us, hl with | [_, _, _], _ => rfl
abbrev N__law_cell : List Str := ["script", "k"]
abbrev P__law_cell : List Str := ["script", "k"]
theorem sc__law_cell : FnScope N__law_cell P__law_cell (defScope s__law_cell) := ⟨rfl, rfl, rfl, by decide +kernel, rfl, by decide +kernel, by decide +kernel⟩
theorem b__law_cell (g : Fx K mg) : Binds K g.fd__law_cell P__law_cell [] := g.F__law_cell.bindsN fun _ _ _ _ _ _ us hl => match us, hl with | [_, _], _ => rfl
abbrev N__law_box : List Str := ["great"]
abbrev P__law_box : List Str := ["great"]
theorem sc__law_box : FnScope N__law_box P__law_box (defScope s__law_box) := ⟨rfl, rfl, rfl, by decide +kernel, rfl, by decide +kernel, by decide +kernel⟩
theorem b__law_box (g : Fx K mg) : Binds K g.fd__law_box P__law_box [] := g.F__law_box.bindsN fun _ _ _ _ _ _ us hl => match us, hl with | [_], _ => rfl
abbrev N__law_take : List Str := ["box", "many", "digit", "mixed"]
abbrev P__law_take : List Str := ["box", "many"]
theorem sc__law_take : FnScope N__law_take P__law_take (defScope s__law_take) := ⟨rfl, rfl, rfl, by decide +kernel, rfl, by decide +kernel, by decide +kernel⟩
theorem b__law_take (g : Fx K mg) : Binds K g.fd__law_take P__law_take [] := g.F__law_take.bindsN fun _ _ _ _ _ _ us hl => match us, hl with | [_, _], _ => rfl
abbrev N__law_row : List Str := ["told", "many", "one"]
abbrev P__law_row : List Str := ["told", "many"]
theorem sc__law_row : FnScope N__law_row P__law_row (defScope s__law_row) := ⟨rfl, rfl, rfl, by decide +kernel, rfl, by decide +kernel, by decide +kernel⟩
theorem b__law_row (g : Fx K mg) : Binds K g.fd__law_row P__law_row [] := g.F__law_row.bindsN fun _ _ _ _ _ _ us hl => match us, hl with | [_, _], _ => rfl
abbrev N__law_same : List Str := ["told", "due", "k"]
abbrev P__law_same : List Str := ["told", "due"]
theorem sc__law_same : FnScope N__law_same P__law_same (defScope s__law_same) := ⟨rfl, rfl, rfl, by decide +kernel, rfl, by decide +kernel, by decide +kernel⟩
theorem b__law_same (g : Fx K mg) : Binds K g.fd__law_same P__law_same [] := g.F__law_same.bindsN fun _ _ _ _ _ _ us hl => match us, hl with | [_, _], _ => rfl
abbrev N__law_mixed : List Str := ["box", "many", "left", "found"]
abbrev P__law_mixed : List Str := ["box", "many"]
theorem sc__law_mixed : FnScope N__law_mixed P__law_mixed (defScope s__law_mixed) := ⟨rfl, rfl, rfl, by decide +kernel, rfl, by decide +kernel, by decide +kernel⟩
theorem b__law_mixed (g : Fx K mg) : Binds K g.fd__law_mixed P__law_mixed [] := g.F__law_mixed.bindsN fun _ _ _ _ _ _ us hl => match us, hl with | [_, _], _ => rfl
abbrev N__law_rankings : List Str := ["box", "many", "others", "full", "found", "member", "row"]
abbrev P__law_rankings : List Str := ["box", "many", "others", "full"]
theorem sc__law_rankings : FnScope N__law_rankings P__law_rankings (defScope s__law_rankings) := ⟨rfl, rfl, rfl, by decide +kernel, rfl, by decide +kernel, by decide +kernel⟩
theorem b__law_rankings (g : Fx K mg) : Binds K g.fd__law_rankings P__law_rankings [] := g.F__law_rankings.bindsN fun _ _ _ _ _ _ us hl => match us, hl with | [_, _, _, _], _ => rfl
abbrev N__law_prefers : List Str := ["ranking", "new", "old"]
abbrev P__law_prefers : List Str := ["ranking", "new", "old"]
theorem sc__law_prefers : FnScope N__law_prefers P__law_prefers (defScope s__law_prefers) := ⟨rfl, rfl, rfl, by decide +kernel, rfl, by decide +kernel, by decide +kernel⟩
theorem b__law_prefers (g : Fx K mg) : Binds K g.fd__law_prefers P__law_prefers [] := g.F__law_prefers.bindsN fun _ _ _ _ _ _ us hl => match us, hl with | [_, _, _], _ => rfl
abbrev N__law_blocks : List Str := ["lefts", "rights", "pairing", "left", "right", "own", "other"]
abbrev P__law_blocks : List Str := ["lefts", "rights", "pairing"]
theorem sc__law_blocks : FnScope N__law_blocks P__law_blocks (defScope s__law_blocks) := ⟨rfl, rfl, rfl, by decide +kernel, rfl, by decide +kernel, by decide +kernel⟩
theorem b__law_blocks (g : Fx K mg) : Binds K g.fd__law_blocks P__law_blocks [] := g.F__law_blocks.bindsN fun _ _ _ _ _ _ us hl => match us, hl with | [_, _, _], _ => rfl
abbrev N__law_split : List Str := ["lefts", "rights", "seats", "numbers", "owners", "right", "wide", "ranking", "row"]
abbrev P__law_split : List Str := ["lefts", "rights", "seats"]
theorem sc__law_split : FnScope N__law_split P__law_split (defScope s__law_split) := ⟨rfl, rfl, rfl, by decide +kernel, rfl, by decide +kernel, by decide +kernel⟩
theorem b__law_split (g : Fx K mg) : Binds K g.fd__law_split P__law_split [] := g.F__law_split.bindsN fun _ _ _ _ _ _ us hl => match us, hl with | [_, _, _], _ => rfl
abbrev N__law_seats_right : List Str := ["box", "named", "many", "others", "lefts", "rights", "seats", "groups", "limits", "places", "wide", "copies", "owners", "sides", "ends", "told", "pairing", "outcome", "due", "counts", "drawn", "left", "some", "filled", "right", "row", "k", "stable", "judged", "seat", "one"]
abbrev P__law_seats_right : List Str := ["box", "named"]
theorem sc__law_seats_right : FnScope N__law_seats_right P__law_seats_right (defScope s__law_seats_right) := ⟨rfl, rfl, rfl, by decide +kernel, rfl, by decide +kernel, by decide +kernel⟩
theorem b__law_seats_right (g : Fx K mg) : Binds K g.fd__law_seats_right P__law_seats_right [] := g.F__law_seats_right.bindsN fun _ _ _ _ _ _ us hl => match us, hl with | [_, _], _ => rfl
abbrev N__law_groups_right : List Str := ["box", "named", "many", "others", "lefts", "rights", "groups", "limits", "places", "numbers", "wide", "copies", "sides", "pairing", "outcome", "right", "group", "left", "k", "spot"]
abbrev P__law_groups_right : List Str := ["box", "named"]
theorem sc__law_groups_right : FnScope N__law_groups_right P__law_groups_right (defScope s__law_groups_right) := ⟨rfl, rfl, rfl, by decide +kernel, rfl, by decide +kernel, by decide +kernel⟩
theorem b__law_groups_right (g : Fx K mg) : Binds K g.fd__law_groups_right P__law_groups_right [] := g.F__law_groups_right.bindsN fun _ _ _ _ _ _ us hl => match us, hl with | [_, _], _ => rfl
abbrev N__law_more_right : List Str := ["box", "named", "many", "others", "lefts", "rights", "groups", "limits", "places", "right", "before", "after", "left", "turn", "ranking", "told", "other"]
abbrev P__law_more_right : List Str := ["box", "named"]
theorem sc__law_more_right : FnScope N__law_more_right P__law_more_right (defScope s__law_more_right) := ⟨rfl, rfl, rfl, by decide +kernel, rfl, by decide +kernel, by decide +kernel⟩
theorem b__law_more_right (g : Fx K mg) : Binds K g.fd__law_more_right P__law_more_right [] := g.F__law_more_right.bindsN fun _ _ _ _ _ _ us hl => match us, hl with | [_, _], _ => rfl
abbrev N_law : List Str := ["script", "k", "box", "named", "turn"]
abbrev P_law : List Str := ["script"]
theorem sc_law : FnScope N_law P_law (defScope s_law) := ⟨rfl, rfl, rfl, by decide +kernel, rfl, by decide +kernel, by decide +kernel⟩
theorem b_law (g : Fx K mg) : Binds K g.fd_law P_law [] := g.F_law.bindsN fun _ _ _ _ _ _ us hl => match us, hl with | [_], _ => rfl
abbrev Ni_Sides : List Str := ["self", "lefts", "rights"]
abbrev Pi_Sides : List Str := ["self", "lefts", "rights"]
theorem sci_Sides : FnScope Ni_Sides Pi_Sides (defScope si_Sides) := ⟨rfl, rfl, rfl, by decide +kernel, rfl, by decide +kernel, by decide +kernel⟩
theorem bI_Sides (g : Fx K mg) : Binds K g.fdi_Sides Pi_Sides [] := g.Fi_Sides.bindsN fun _ _ _ _ _ _ us hl => match us, hl with | [_, _, _], _ => rfl
abbrev Ni_Places : List Str := ["self", "lefts", "rights", "seats", "groups", "limits", "row"]
abbrev Pi_Places : List Str := ["self", "lefts", "rights", "seats", "groups", "limits"]
theorem sci_Places : FnScope Ni_Places Pi_Places (defScope si_Places) := ⟨rfl, rfl, rfl, by decide +kernel, rfl, by decide +kernel, by decide +kernel⟩
theorem bI_Places (g : Fx K mg) : Binds K g.fdi_Places Pi_Places [] := g.Fi_Places.bindsN fun _ _ _ _ _ _ us hl => match us, hl with | [_, _, _, _, _, _], _ => rfl
theorem kb_is_stable_outcome_1_0 (g : Fx K mg) : KBn K g.fd_is_stable_outcome P_is_stable_outcome 0 ["value", "places"] (gK [1, 0]) (gK [1, 0]) := kb_of g.F_is_stable_outcome 0 [1, 0] fun _ _ _ _ _ _ us ws l1 l2 => match us, l1, ws, l2 with | [], _, [_, _], _ => rfl
theorem kbI_Places_4_3_2_1_0 (g : Fx K mg) : KBn K g.fdi_Places Pi_Places 1 ["limits", "groups", "seats", "rights", "lefts"] (gK [4, 3, 2, 1, 0]) (gK [4, 3, 2, 1, 0]) := kb_of g.Fi_Places 1 [4, 3, 2, 1, 0] fun _ _ _ _ _ _ us ws l1 l2 => match us, l1, ws, l2 with | [_], _, [_, _, _, _, _], _ => rfl
theorem kb_best_seats_0 (g : Fx K mg) : KBn K g.fd_best_seats P_best_seats 0 ["places"] (gK [0]) (gK [0]) := kb_of g.F_best_seats 0 [0] fun _ _ _ _ _ _ us ws l1 l2 => match us, l1, ws, l2 with | [], _, [_], _ => rfl
theorem kb_best_for_lefts_0 (g : Fx K mg) : KBn K g.fd_best_for_lefts P_best_for_lefts 0 ["sides"] (gK [0]) (gK [0]) := kb_of g.F_best_for_lefts 0 [0] fun _ _ _ _ _ _ us ws l1 l2 => match us, l1, ws, l2 with | [], _, [_], _ => rfl
theorem kb_by_lie_2_1_0 (g : Fx K mg) : KBn K g.fd_by_lie P_by_lie 0 ["ranking", "left", "places"] (gK [2, 1, 0]) (gK [2, 1, 0]) := kb_of g.F_by_lie 0 [2, 1, 0] fun _ _ _ _ _ _ us ws l1 l2 => match us, l1, ws, l2 with | [], _, [_, _, _], _ => rfl
theorem kb_with_seat_1_0 (g : Fx K mg) : KBn K g.fd_with_seat P_with_seat 0 ["right", "places"] (gK [1, 0]) (gK [1, 0]) := kb_of g.F_with_seat 0 [1, 0] fun _ _ _ _ _ _ us ws l1 l2 => match us, l1, ws, l2 with | [], _, [_, _], _ => rfl
end
end K90
set_option maxRecDepth 100000
set_option maxHeartbeats 4000000
namespace K90
open PySem PySem.Spec PyProof.Rows L2 RZ DL
open C8 (call_isC pe_gc InsC)
open M90
def isW : Dat → Bool
  | .int _ => true
  | _ => false
def plain : Dat → Bool
  | .obj _ _ => false
  | .cell => false
  | .ty _ => false
  | .cls _ => false
  | .dtt _ => false
  | _ => true
def S_is_whole : List Dat → (Dat → Prop) → Prop := fun ds P => ∃ d, ds = [d] ∧ plain d = true ∧ P (.bl (isW d))
theorem len_is_whole (ds : List Dat) (Q : Dat → Prop) (h : S_is_whole ds Q) : ds.length = P_is_whole.length := by
  obtain ⟨d, rfl, _⟩ := h; rfl
section
variable {P : Program} {w : World} {K : PySem.W.Frag} {mg : Str → Option Value} {base : Heap}
theorem ok_is_whole (g : Fx K mg) : FnOk P w K mg base L2.CX0 1 g.f_is_whole g.fd_is_whole P_is_whole (spF 0 S_is_whole) := by
  refine okD g.F_is_whole sc_is_whole len_is_whole (fun cdv A outer s H E hr => ?_)
  have nd := (sc_is_whole).nd
  refine ⟨_, SDs.cost (sds_cons (sd_ret (pd_and (pd_callB call_isi cd_isi (by rfl) g.b_isinstance boot_isinstance (phd_cons ((pd_var (pv 0))).toSh (phd_cons ((pd_ty (pe_bltn (by rfl) g.b_int boot_int rfl))).toSh phd_nil))) (pd_one (pd_not (pd_callB call_isi cd_isi (by rfl) g.b_isinstance boot_isinstance (phd_cons ((pd_var (pv 0))).toSh (phd_cons ((pd_ty (pe_bltn (by rfl) g.b_bool boot_bool rfl))).toSh phd_nil))))))) sds_nil) (by decide), fun ds Q h => ?_⟩
  obtain ⟨d, rfl, h1, h2⟩ := h
  cases d <;> simp [plain] at h1 <;> simpa [isW] using h2
end
def nD (n : Nat) : Dat := .int (n : Int)
def rk (r : List Nat) : Dat := .tup (r.map nD)
def rks (rs : List (List Nat)) : Dat := .tup (rs.map rk)
def oD : Option Nat → Dat
  | none => .non
  | some n => nD n
def outD (o : List (Option Nat)) : Dat := .tup (o.map oD)
@[simp] theorem plain_nD {n : Nat} : plain (nD n) = true := rfl
@[simp] theorem isW_nD {n : Nat} : isW (nD n) = true := rfl
@[simp] theorem tyN_nD {n : Nat} : tyN (nD n) = some "int" := rfl
@[simp] theorem tyN_rk {r : List Nat} : tyN (rk r) = some "tuple" := rfl
@[simp] theorem tyN_rks {r : List (List Nat)} : tyN (rks r) = some "tuple" := rfl
@[simp] theorem tyN_outD {r : List (Option Nat)} : tyN (outD r) = some "tuple" := rfl
@[simp] theorem isNon_nD {n : Nat} : isNon (nD n) = false := rfl
@[simp] theorem flat_nD {n : Nat} : flatD (nD n) = true := rfl
@[simp] theorem pl_nD {k n : Nat} : pl k (nD n) = true := by cases k <;> rfl
@[simp] theorem pl_int {k : Nat} {n : Int} : pl k (.int n) = true := by cases k <;> rfl
@[simp] theorem pl_bl {k : Nat} {n : Bool} : pl k (.bl n) = true := by cases k <;> rfl
@[simp] theorem pl_non {k : Nat} : pl k .non = true := by cases k <;> rfl
@[simp] theorem pl_oD {k : Nat} {o : Option Nat} : pl k (oD o) = true := by cases o <;> simp [oD]
@[simp] theorem flat_oD {o : Option Nat} : flatD (oD o) = true := by cases o <;> rfl
@[simp] theorem pl_lst {k : Nat} {xs : List Dat} : pl (k + 1) (.lst xs) = xs.all (pl k) := rfl
@[simp] theorem pl_tup {k : Nat} {xs : List Dat} : pl (k + 1) (.tup xs) = xs.all (pl k) := rfl
@[simp] theorem pl_lst20 {xs : List Dat} : pl 20 (.lst xs) = xs.all (pl 19) := rfl
@[simp] theorem pl_tup20 {xs : List Dat} : pl 20 (.tup xs) = xs.all (pl 19) := rfl
theorem all_pl_nD {k : Nat} {r : List Nat} : (r.map nD).all (pl k) = true := by simp
theorem all_flat_nD {r : List Nat} : (r.map nD).all flatD = true := by simp
@[simp] theorem eqD_nn {a b : Nat} : eqD (nD a) (nD b) = decide (a = b) := by
  unfold nD
  simp only [eqD]
  by_cases h : a = b
  · simp [h]
  · have : ¬ (a : Int) = (b : Int) := by omega
    simp [h, this]
@[simp] theorem eqD_ii {a b : Int} : eqD (.int a) (.int b) = decide (a = b) := by
  simp only [eqD]
  by_cases h : a = b
  · simp [h]
  · simp [h]
@[simp] theorem intsD_nD {r : List Nat} : intsD (r.map nD) = some (r.map fun (n : Nat) => (n : Int)) := by
  have : r.map nD = (r.map fun (n : Nat) => (n : Int)).map Dat.int := by simp [nD, Function.comp_def]
  rw [this, DL.ints_map]
theorem get_nD {r : List Nat} {i : Nat} : (r.map nD)[i]? = r[i]?.map nD := by simp
@[simp] theorem fLen_rk {r : List Nat} {P : Dat → Prop} : fLen [rk r] P = P (.int r.length) := by simp [rk]
@[simp] theorem fLen_rks {r : List (List Nat)} {P : Dat → Prop} : fLen [rks r] P = P (.int r.length) := by simp [rks]
@[simp] theorem fLen_outD {r : List (Option Nat)} {P : Dat → Prop} : fLen [outD r] P = P (.int r.length) := by simp [outD]
@[simp] theorem oC_in {g : Int → Int → Bool} {a : Int} {b : Nat} {P : Dat → Prop} : fC g (.int a) (nD b) P = P (.bl (g a b)) := rfl
@[simp] theorem oC_ni {g : Int → Int → Bool} {a : Nat} {b : Int} {P : Dat → Prop} : fC g (nD a) (.int b) P = P (.bl (g a b)) := rfl
@[simp] theorem oC_nn {g : Int → Int → Bool} {a b : Nat} {P : Dat → Prop} : fC g (nD a) (nD b) P = P (.bl (g a b)) := rfl
@[simp] theorem nD_int {a : Nat} {i : Int} : (nD a = .int i) = ((a : Int) = i) := by simp [nD]
@[simp] theorem int_nD {a : Nat} {i : Int} : (Dat.int i = nD a) = (i = (a : Int)) := by simp [nD]
@[simp] theorem nD_inj {a b : Nat} : (nD a = nD b) = (a = b) := by
  unfold nD
  apply propext
  rw [Dat.int.injEq]
  omega
def S_is_below : List Dat → (Dat → Prop) → Prop := fun ds P => ∃ i m : Int, ds = [.int i, .int m] ∧ P (.bl (decide (0 ≤ i) && decide (i < m)))
theorem len_is_below (ds : List Dat) (Q : Dat → Prop) (h : S_is_below ds Q) : ds.length = P_is_below.length := by
  obtain ⟨d, a, rfl, _⟩ := h; rfl
section
variable {P : Program} {w : World} {K : PySem.W.Frag} {mg : Str → Option Value} {base : Heap}
theorem ok_is_below (g : Fx K mg) : FnOk P w K mg base L2.CX0 2 g.f_is_below g.fd_is_below P_is_below (spF 0 S_is_below) := by
  refine okD g.F_is_below sc_is_below len_is_below (fun cdv A outer s H E hr => ?_)
  have nd := (sc_is_below).nd
  refine ⟨_, SDs.cost (sds_cons (sd_ret (pd_and (pd_call (ok_is_whole g) (hr.mono (by decide)) (by rfl) g.g_is_whole g.F_is_whole.kp (b_is_whole g) (pad_cons (pd_var (pv 0)) pad_nil)) (pd_one (pd_chain op_le op_lt od_C od_C (pd_int).toSh ((pd_var (pv 0))).toSh ((pd_var (pv 1))).toSh)))) sds_nil) (by decide), fun ds Q h => ?_⟩
  obtain ⟨i, m, rfl, h2⟩ := h
  simp [S_is_whole, plain, isW]
  by_cases h0 : 0 ≤ i
  · exact .inr ⟨h0, by simpa [h0] using h2⟩
  · exact .inl ⟨by omega, by simpa [h0] using h2⟩
end
def RkOk (many : Nat) (r : List Nat) : Prop := r.Nodup ∧ (∀ x ∈ r, x < many) ∧ many ≤ 20
theorem RkOk.len {many : Nat} {r : List Nat} (h : RkOk many r) : r.length ≤ 20 := by
  have h1 : r.length ≤ (List.range many).length := List.Nodup.length_le_of_subset h.1 fun x hx => List.mem_range.mpr (h.2.1 x hx)
  rw [List.length_range] at h1
  have := h.2.2
  omega
def S_is_ranking : List Dat → (Dat → Prop) → Prop := fun ds P => ∃ (r : List Nat) (m : Nat), ds = [rk r, nD m] ∧ RkOk m r ∧ P (.bl true)
theorem len_is_ranking (ds : List Dat) (Q : Dat → Prop) (h : S_is_ranking ds Q) : ds.length = P_is_ranking.length := by
  obtain ⟨d, a, rfl, _⟩ := h; rfl
section
variable {P : Program} {w : World} {K : PySem.W.Frag} {mg : Str → Option Value} {base : Heap}
theorem ok_is_ranking (g : Fx K mg) : FnOk P w K mg base L2.CX0 3 g.f_is_ranking g.fd_is_ranking P_is_ranking (spF 0 S_is_ranking) := by
  refine okD g.F_is_ranking sc_is_ranking len_is_ranking (fun cdv A outer s H E hr => ?_)
  have nd := (sc_is_ranking).nd
  refine ⟨_, SDs.cost (sds_cons (sd_if ((pwd_or (ptd_not (ptd_val (pd_callB call_isi cd_isi (by rfl) g.b_isinstance boot_isinstance (phd_cons ((pd_var (pv 0))).toSh (phd_cons ((pd_ty (pe_bltn (by rfl) g.b_tuple boot_tuple rfl))).toSh phd_nil))))) (pwd_or1 (ptd_not (ptd_val (pd_callB (cr_all rfl) cd_all (by rfl) g.b_all boot_all (phd_cons ((pd_lc 1024 rfl nd (pid_tup (pd_var (pv 0))) (blkOk_by (own := [("member", 2)]) (by kernel_rfl)) (fun _ _ _ _ _ => (pgd_name (i := 2) nd rfl (by first | exact .inl rfl | exact .inr rfl))) (fun _ _ _ _ _ => ptsd_nil) (fun _ _ _ _ _ => (pd_call (ok_is_below g) (hr.mono (by decide)) (by rfl) g.g_is_below g.F_is_below.kp (b_is_below g) (pad_cons (pd_var (pv 2)) (pad_cons (pd_var (pv 1)) pad_nil)))))).toSh phd_nil))))))).pt (sds_cons (sd_ret pd_bl) sds_nil) sds_nil) (sds_cons (sd_ret (pd_cmp (op_eqD (ru0 hr)) od_eq ((pd_lenSet (by rfl) g.b_len (by rfl) g.b_set (pd_var (pv 0)) rfl)).toSh ((pd_callB call_lenA cd_len (by rfl) g.b_len boot_len (phd_cons ((pd_var (pv 0))).toSh phd_nil))).toSh (nomark _))) sds_nil)) (by decide), fun ds Q h => ?_⟩
  obtain ⟨r, m, rfl, h1, h2⟩ := h
  simp
  refine ⟨_, rfl, _, rfl, lcp (fun _ => some (.bl true)) ?_ (fun d hd R hR => ?_) ?_⟩
  · have := h1.len; simp; omega
  · obtain ⟨n, hn, rfl⟩ := List.mem_map.mp hd
    simp
    refine ⟨n, m, rfl, ?_⟩
    have := h1.2.1 n hn
    simpa [this] using hR
  · rw [fm_const]
    refine ⟨_, blsD_rep, ?_⟩
    rw [all_rep]
    refine .inr ⟨rfl, _, rfl, _, intsD_nD, ?_, ?_, ?_⟩
    · exact List.pairwise_map.mpr (h1.1.imp fun {a b} (h : a ≠ b) => by omega)
    · have := h1.len; simp; omega
    · simpa using h2
end
def RksOk (many : Nat) (rs : List (List Nat)) : Prop := 1 ≤ rs.length ∧ rs.length ≤ 20 ∧ ∀ r ∈ rs, RkOk many r
def S_are_rankings : List Dat → (Dat → Prop) → Prop := fun ds P => ∃ (r : List (List Nat)) (m : Nat), ds = [rks r, nD m] ∧ RksOk m r ∧ P (.bl true)
theorem len_are_rankings (ds : List Dat) (Q : Dat → Prop) (h : S_are_rankings ds Q) : ds.length = P_are_rankings.length := by
  obtain ⟨d, a, rfl, _⟩ := h; rfl
section
variable {P : Program} {w : World} {K : PySem.W.Frag} {mg : Str → Option Value} {base : Heap}
theorem ok_are_rankings (g : Fx K mg) : FnOk P w K mg base L2.CX0 4 g.f_are_rankings g.fd_are_rankings P_are_rankings (spF 0 S_are_rankings) := by
  refine okD g.F_are_rankings sc_are_rankings len_are_rankings (fun cdv A outer s H E hr => ?_)
  have nd := (sc_are_rankings).nd
  refine ⟨_, SDs.cost (sds_cons (sd_if ((pwd_or (ptd_not (ptd_val (pd_callB call_isi cd_isi (by rfl) g.b_isinstance boot_isinstance (phd_cons ((pd_var (pv 0))).toSh (phd_cons ((pd_ty (pe_bltn (by rfl) g.b_tuple boot_tuple rfl))).toSh phd_nil))))) (pwd_or1 (ptd_not (ptd_chain op_le op_le od_C od_C (pd_int).toSh ((pd_callB call_lenA cd_len (by rfl) g.b_len boot_len (phd_cons ((pd_var (pv 0))).toSh phd_nil))).toSh ((pd_gi (by rfl) g.i_MOST_MEMBERS)).toSh))))).pt (sds_cons (sd_ret pd_bl) sds_nil) sds_nil) (sds_cons (sd_ret (pd_callB (cr_all rfl) cd_all (by rfl) g.b_all boot_all (phd_cons ((pd_lc 1024 rfl nd (pid_tup (pd_var (pv 0))) (blkOk_by (own := [("ranking", 2)]) (by kernel_rfl)) (fun _ _ _ _ _ => (pgd_name (i := 2) nd rfl (by first | exact .inl rfl | exact .inr rfl))) (fun _ _ _ _ _ => ptsd_nil) (fun _ _ _ _ _ => (pd_call (ok_is_ranking g) (hr.mono (by decide)) (by rfl) g.g_is_ranking g.F_is_ranking.kp (b_is_ranking g) (pad_cons (pd_var (pv 2)) (pad_cons (pd_var (pv 1)) pad_nil)))))).toSh phd_nil))) sds_nil)) (by decide), fun ds Q h => ?_⟩
  obtain ⟨r, m, rfl, ⟨h1, h2, h3⟩, h4⟩ := h
  simp
  refine .inr ⟨by omega, .inr ⟨by omega, ?_⟩⟩
  refine ⟨_, rfl, _, rfl, lcp (fun _ => some (.bl true)) ?_ (fun d hd R hR => ?_) ?_⟩
  · simp; omega
  · obtain ⟨n, hn, rfl⟩ := List.mem_map.mp hd
    simp
    exact ⟨n, m, rfl, h3 n hn, hR⟩
  · rw [fm_const]
    refine ⟨_, blsD_rep, ?_⟩
    rw [all_rep]
    exact h4
end
def SidesOk (ls rs : List (List Nat)) : Prop := RksOk 20 ls ∧ RksOk ls.length rs ∧ ∀ r ∈ ls, ∀ x ∈ r, x < rs.length
def S_check_rankings : List Dat → (Dat → Prop) → Prop := fun ds P => ∃ (l r : List (List Nat)), ds = [rks l, rks r] ∧ SidesOk l r ∧ P .non
theorem len_check_rankings (ds : List Dat) (Q : Dat → Prop) (h : S_check_rankings ds Q) : ds.length = P_check_rankings.length := by
  obtain ⟨d, a, rfl, _⟩ := h; rfl
section
variable {P : Program} {w : World} {K : PySem.W.Frag} {mg : Str → Option Value} {base : Heap}
theorem ok_check_rankings (g : Fx K mg) : FnOk P w K mg base L2.CX0 5 g.f_check_rankings g.fd_check_rankings P_check_rankings (spF 0 S_check_rankings) := by
  refine okD g.F_check_rankings sc_check_rankings len_check_rankings (fun cdv A outer s H E hr => ?_)
  have nd := (sc_check_rankings).nd
  refine ⟨_, SDs.cost (sds_cons (sd_if (ptd_not (ptd_val (pd_call (ok_are_rankings g) (hr.mono (by decide)) (by rfl) g.g_are_rankings g.F_are_rankings.kp (b_are_rankings g) (pad_cons (pd_var (pv 0)) (pad_cons (pd_gi (by rfl) g.i_MOST_MEMBERS) pad_nil))))) (sds_cons sd_never sds_nil) sds_nil) (sds_cons (sd_asg (i := 2) (pd_callB (call_maxA rfl) cd_max (by rfl) g.b_max boot_max (phd_cons ((pd_lst (pad_cons (pd_neg pd_int) (pad_star ((pd_lc2 (vs1 := [4]) rfl nd (pid_tup (pd_var (pv 0))) (blkOk_by (own := [("ranking", 3), ("right", 4)]) (by kernel_rfl)) (by decide) (fun _ _ _ _ _ => (pgd_name (i := 3) nd rfl (by first | exact .inl rfl | exact .inr rfl))) (fun _ _ _ _ _ => ptsd_nil) (fun _ _ _ _ _ => (pid_tup (pd_var (pv 3)))) (fun _ _ _ _ _ => (pgd_name (i := 4) nd rfl (by first | exact .inl rfl | exact .inr rfl))) (fun _ _ _ _ _ => ptsd_nil) (fun _ _ _ _ _ => (pd_var (pv 4))))).toSh pad_nil)))).toSh phd_nil)) nd rfl (.inl rfl)) (sds_cons (sd_if ((pwd_or (ptd_not (ptd_val (pd_call (ok_are_rankings g) (hr.mono (by decide)) (by rfl) g.g_are_rankings g.F_are_rankings.kp (b_are_rankings g) (pad_cons (pd_var (pv 1)) (pad_cons (pd_callB call_lenA cd_len (by rfl) g.b_len boot_len (phd_cons ((pd_var (pv 0))).toSh phd_nil)) pad_nil))))) (pwd_or1 (ptd_cmp op_le od_C ((pd_callB call_lenA cd_len (by rfl) g.b_len boot_len (phd_cons ((pd_var (pv 1))).toSh phd_nil))).toSh ((pd_var (pv 2))).toSh (nomark _))))).pt (sds_cons sd_never sds_nil) sds_nil) sds_nil))) (by decide), fun ds Q h => ?_⟩
  obtain ⟨l, r, rfl, ⟨h1, h2, h3⟩, h4⟩ := h
  simp
  refine ⟨l, 20, rfl, h1, rfl, ?_⟩
  refine ⟨_, rfl, _, rfl, ?_, fun i acc => ∃ ns : List Nat, acc = ns.map nD ∧ (∀ x ∈ ns, x < r.length) ∧ ns.length ≤ i * 20, ⟨[], rfl, by simp, by simp⟩, fun i d acc hd ⟨ns, ha, hx, hl⟩ => ?_, fun acc ⟨ns, ha, hx, hl⟩ => ?_⟩
  · simp; have := h1.2.1; omega
  · rw [List.getElem?_map] at hd
    cases e : l[i]? with
    | none => rw [e] at hd; cases hd
    | some row =>
      rw [e] at hd
      cases hd
      have hm : row ∈ l := List.mem_of_getElem? e
      have hrow := (h1.2.2 row hm).len
      simp
      refine ⟨_, rfl, ?_, fun j acc => ∃ ns : List Nat, acc = ns.map nD ∧ (∀ x ∈ ns, x < r.length) ∧ ns.length ≤ i * 20 + j, ⟨ns, ha, hx, by omega⟩, fun j d acc1 hd ⟨ns2, ha2, hx2, hl2⟩ => ?_, fun acc1 ⟨ns2, ha2, hx2, hl2⟩ => ⟨ns2, ha2, hx2, ?_⟩⟩
      · simp; omega
      · rw [List.getElem?_map] at hd
        cases e2 : row[j]? with
        | none => rw [e2] at hd; cases hd
        | some x =>
          rw [e2] at hd
          cases hd
          have hx3 := h3 row hm x (List.mem_of_getElem? e2)
          refine ⟨ns2 ++ [x], by rw [ha2]; simp, fun y hy => ?_, by simp; omega⟩
          rcases List.mem_append.mp hy with h | h
          · exact hx2 y h
          · rw [List.mem_singleton.mp h]; exact hx3
      · simp at hl2
        have e3 : (i + 1) * 20 = i * 20 + 20 := Nat.succ_mul _ _
        omega
  · subst ha
    have hl20 := h1.2.1
    refine ⟨_, .inl rfl, ?_, (-1) :: ns.map (fun (n : Nat) => (n : Int)), ?_, by simp, fun m hm _ => ⟨r, l.length, rfl, h2, rfl, ?_, h4⟩⟩
    · simp at hl ⊢
      omega
    · simp [intsD]
    · rcases List.mem_cons.mp hm with h | h
      · have := h2.1; omega
      · obtain ⟨n, hn, rfl⟩ := List.mem_map.mp h
        have := hx n hn
        omega
end
def fsS (l r : List (List Nat)) : List (Str × Dat) := [("lefts", rks l), ("rights", rks r)]
def pSides (C : Addr) (l r : List (List Nat)) : Dat := .obj C (fsS l r)
@[simp] theorem lkS_l {l r : List (List Nat)} : List.lookup (Str.ofString "lefts") (fsS l r) = some (rks l) := by rfl
@[simp] theorem lkS_r {l r : List (List Nat)} : List.lookup (Str.ofString "rights") (fsS l r) = some (rks r) := by rfl
/-! places in rows -/
def row (ls : List (List Nat)) (a : Nat) : List Nat := ls.getD a []
def at0 (r : List Nat) (a : Nat) : Nat := r.getD a 0
def oat (r : List (Option Nat)) (a : Nat) : Option Nat := r.getD a none
theorem ex1 {α : Type} {x : α} {P : α → Prop} : (∃ d, some x = some d ∧ P d) = P x := by
  apply propext
  constructor
  · rintro ⟨d, h, p⟩; cases h; exact p
  · intro p; exact ⟨x, rfl, p⟩
theorem fIx_rks {ls : List (List Nat)} {a : Nat} {P : Dat → Prop} (h : a < ls.length) : fIx (rks ls) (nD a) P = P (rk (row ls a)) := by
  have : atI (ls.map rk) ((a : Nat) : Int) = some (rk (row ls a)) := by
    apply atI_nat
    simp [h, row, at0, oat]
  show (∃ d, atI (ls.map rk) ((a : Nat) : Int) = some d ∧ P d) = _
  rw [this, ex1]
theorem fIx_rk {r : List Nat} {a : Nat} {P : Dat → Prop} (h : a < r.length) : fIx (rk r) (nD a) P = P (nD (at0 r a)) := by
  have : atI (r.map nD) ((a : Nat) : Int) = some (nD (at0 r a)) := by
    apply atI_nat
    simp [h, row, at0, oat]
  show (∃ d, atI (r.map nD) ((a : Nat) : Int) = some d ∧ P d) = _
  rw [this, ex1]
theorem fIx_lst {r : List Nat} {a : Nat} {P : Dat → Prop} (h : a < r.length) : fIx (.lst (r.map nD)) (nD a) P = P (nD (at0 r a)) := by
  have : atI (r.map nD) ((a : Nat) : Int) = some (nD (at0 r a)) := by
    apply atI_nat
    simp [h, at0]
  show (∃ d, atI (r.map nD) ((a : Nat) : Int) = some d ∧ P d) = _
  rw [this, ex1]
theorem fIx_out {r : List (Option Nat)} {a : Nat} {P : Dat → Prop} (h : a < r.length) : fIx (outD r) (nD a) P = P (oD (oat r a)) := by
  have : atI (r.map oD) ((a : Nat) : Int) = some (oD (oat r a)) := by
    apply atI_nat
    simp [h, row, at0, oat]
  show (∃ d, atI (r.map oD) ((a : Nat) : Int) = some d ∧ P d) = _
  rw [this, ex1]
@[simp] theorem any_nD {r : List Nat} {a : Nat} : ((r.map nD).any fun z => eqD z (nD a)) = decide (a ∈ r) := by
  rw [Bool.eq_iff_iff]
  simp [List.any_eq_true]
@[simp] theorem fIn_rk {neg : Bool} {r : List Nat} {a : Nat} {P : Dat → Prop} : fIn neg (nD a) (rk r) P = P (.bl (neg != decide (a ∈ r))) := by
  show (flatD (nD a) = true ∧ (r.map nD).all flatD = true ∧ P (.bl (neg != (r.map nD).any fun z => eqD z (nD a)))) = _
  rw [any_nD]
  simp
@[simp] theorem fIn_lst {neg : Bool} {r : List Nat} {a : Nat} {P : Dat → Prop} : fIn neg (nD a) (.lst (r.map nD)) P = P (.bl (neg != decide (a ∈ r))) := by
  show (pl 20 (nD a) = true ∧ pl 20 (.lst (r.map nD)) = true ∧ P (.bl (neg != (r.map nD).any fun z => eqD z (nD a)))) = _
  rw [any_nD]
  simp
def S_check_sides (C : Addr) : List Dat → (Dat → Prop) → Prop := fun ds P => ∃ fs, ds = [.obj C fs] ∧ P .non
theorem len_check_sides {C : Addr} (ds : List Dat) (Q : Dat → Prop) (h : S_check_sides C ds Q) : ds.length = P_check_sides.length := by
  obtain ⟨d, rfl, _⟩ := h; rfl
section
variable {P : Program} {w : World} {K : PySem.W.Frag} {mg : Str → Option Value} {base : Heap}
theorem ok_check_sides (g : Fx K mg) : FnOk P w K mg base L2.CX0 1 g.f_check_sides g.fd_check_sides P_check_sides (spF 0 (S_check_sides g.C_Sides)) := by
  refine okD g.F_check_sides sc_check_sides len_check_sides (fun cdv A outer s H E hr => ?_)
  have nd := (sc_check_sides).nd
  refine ⟨_, SDs.cost (sds_cons (sd_if (ptd_not (ptd_val (pd_callB (call_isC g.ins_Sides) cd_isO (by rfl) g.b_isinstance boot_isinstance (phd_cons ((pd_var (pv 0))).toSh (phd_cons ((pd_cls (pe_gc (by rfl) ⟨_, g.g_Sides, rfl⟩))).toSh phd_nil))))) (sds_cons sd_never sds_nil) sds_nil) sds_nil) (by decide), fun ds Q h => ?_⟩
  obtain ⟨fs, rfl, h4⟩ := h
  simp [h4]
end
structure PL where
  lefts : List (List Nat)
  rights : List (List Nat)
  seats : List Nat
  groups : List Nat
  limits : List (List Nat)
def fsP (V : PL) : List (Str × Dat) := [("lefts", rks V.lefts), ("rights", rks V.rights), ("seats", rk V.seats), ("groups", rk V.groups), ("limits", rks V.limits)]
def pPl (C : Addr) (V : PL) : Dat := .obj C (fsP V)
@[simp] theorem lkP_l {V : PL} : List.lookup (Str.ofString "lefts") (fsP V) = some (rks V.lefts) := by rfl
@[simp] theorem lkP_r {V : PL} : List.lookup (Str.ofString "rights") (fsP V) = some (rks V.rights) := by rfl
@[simp] theorem lkP_s {V : PL} : List.lookup (Str.ofString "seats") (fsP V) = some (rk V.seats) := by rfl
@[simp] theorem lkP_g {V : PL} : List.lookup (Str.ofString "groups") (fsP V) = some (rk V.groups) := by rfl
@[simp] theorem lkP_m {V : PL} : List.lookup (Str.ofString "limits") (fsP V) = some (rks V.limits) := by rfl
structure PL.Ok (V : PL) : Prop where
  sd : SidesOk V.lefts V.rights
  se : V.seats.length = V.rights.length ∧ ∀ x ∈ V.seats, x ≤ 20
  gr : V.groups.length = V.lefts.length ∧ ∀ x ∈ V.groups, x < 4
  li : V.limits.length = V.rights.length ∧ ∀ r ∈ V.limits, r.length = 4 ∧ ∀ x ∈ r, x ≤ 20
def S_check_places (C : Addr) : List Dat → (Dat → Prop) → Prop := fun ds P => ∃ fs, ds = [.obj C fs] ∧ P .non
theorem len_check_places {C : Addr} (ds : List Dat) (Q : Dat → Prop) (h : S_check_places C ds Q) : ds.length = P_check_places.length := by
  obtain ⟨d, rfl, _⟩ := h; rfl
section
variable {P : Program} {w : World} {K : PySem.W.Frag} {mg : Str → Option Value} {base : Heap}
theorem ok_check_places (g : Fx K mg) : FnOk P w K mg base L2.CX0 1 g.f_check_places g.fd_check_places P_check_places (spF 0 (S_check_places g.C_Places)) := by
  refine okD g.F_check_places sc_check_places len_check_places (fun cdv A outer s H E hr => ?_)
  have nd := (sc_check_places).nd
  refine ⟨_, SDs.cost (sds_cons (sd_if (ptd_not (ptd_val (pd_callB (call_isC g.ins_Places) cd_isO (by rfl) g.b_isinstance boot_isinstance (phd_cons ((pd_var (pv 0))).toSh (phd_cons ((pd_cls (pe_gc (by rfl) ⟨_, g.g_Places, rfl⟩))).toSh phd_nil))))) (sds_cons sd_never sds_nil) sds_nil) sds_nil) (by decide), fun ds Q h => ?_⟩
  obtain ⟨fs, rfl, h4⟩ := h
  simp [h4]
end
def fitB (l r : List (List Nat)) (a b : Nat) : Bool := decide (b ∈ row l a) && decide (a ∈ row r b)
def S_does_fit (C : Addr) : List Dat → (Dat → Prop) → Prop := fun ds P => ∃ (V : PL) (a b : Nat), ds = [pPl C V, nD a, nD b] ∧ a < V.lefts.length ∧ b < V.rights.length ∧ P (.bl (fitB V.lefts V.rights a b))
theorem len_does_fit {C : Addr} (ds : List Dat) (Q : Dat → Prop) (h : S_does_fit C ds Q) : ds.length = P_does_fit.length := by
  obtain ⟨V, a, b, rfl, _⟩ := h; rfl
section
variable {P : Program} {w : World} {K : PySem.W.Frag} {mg : Str → Option Value} {base : Heap}
theorem ok_does_fit (g : Fx K mg) : FnOk P w K mg base L2.CX0 1 g.f_does_fit g.fd_does_fit P_does_fit (spF 0 (S_does_fit g.C_Places)) := by
  refine okD g.F_does_fit sc_does_fit len_does_fit (fun cdv A outer s H E hr => ?_)
  have nd := (sc_does_fit).nd
  refine ⟨_, SDs.cost (sds_cons (sd_ret (pd_and (pd_cmp (op_inA (ru hr)) od_in ((pd_var (pv 2))).toSh ((pd_ix (ix_all (ru1 hr)) od_ix ((pd_fld g.cl_Places g.na_Places_lefts (pd_var (pv 0)))).toSh ((pd_var (pv 1))).toSh (fun _ _ => rfl))).toSh (by with_unfolding_all rfl)) (pd_one (pd_cmp (op_inA (ru hr)) od_in ((pd_var (pv 1))).toSh ((pd_ix (ix_all (ru1 hr)) od_ix ((pd_fld g.cl_Places g.na_Places_rights (pd_var (pv 0)))).toSh ((pd_var (pv 2))).toSh (fun _ _ => rfl))).toSh (by with_unfolding_all rfl))))) sds_nil) (by decide), fun ds Q h => ?_⟩
  obtain ⟨V, a, b, rfl, h1, h2, h3⟩ := h
  simp [pPl]
  rw [fIx_rks h1]
  simp
  by_cases h : b ∈ row V.lefts a
  · refine .inr ⟨by simpa using h, ?_⟩
    rw [fIx_rks h2]
    simpa [fitB, h] using h3
  · refine .inl ⟨by simpa using h, by simpa [fitB, h] using h3⟩
end
/-- the first place of a member -/
def ixo (r : List Nat) (a : Nat) : Nat := r.idxOf a
def abB (r : List Nat) (a : Nat) : Option Nat → Bool
  | none => true
  | some b => decide (ixo r a < ixo r b)
theorem dTIx_at {r : List Nat} {a : Nat} (h : a ∈ r) : (r.map nD)[ixo r a]? = some (nD a) ∧ ∀ m z, m < ixo r a → (r.map nD)[m]? = some z → eqD z (nD a) = false := by
  have hl : r.idxOf a < r.length := List.idxOf_lt_length_iff.mpr h
  refine ⟨?_, fun m z hm hz => ?_⟩
  · unfold ixo
    rw [List.getElem?_map, List.getElem?_eq_getElem hl, List.getElem_idxOf]
    rfl
  · rw [List.getElem?_map] at hz
    have hml : m < r.length := by unfold ixo at hm; omega
    rw [List.getElem?_eq_getElem hml] at hz
    cases hz
    have : r[m] ≠ a := fun e => by
      have h2 := List.not_of_lt_findIdx (p := (· == a)) (xs := r) (i := m) hm
      simp at h2
      exact h2 e
    simp [this]
def S_is_above : List Dat → (Dat → Prop) → Prop := fun ds P => ∃ (r : List Nat) (a : Nat) (o : Option Nat), ds = [rk r, nD a, oD o] ∧ a ∈ r ∧ (∀ b, o = some b → b ∈ r) ∧ P (.bl (abB r a o))
theorem len_is_above (ds : List Dat) (Q : Dat → Prop) (h : S_is_above ds Q) : ds.length = P_is_above.length := by
  obtain ⟨V, a, b, rfl, _⟩ := h; rfl
section
variable {P : Program} {w : World} {K : PySem.W.Frag} {mg : Str → Option Value} {base : Heap}
theorem ok_is_above (g : Fx K mg) : FnOk P w K mg base L2.CX0 1 g.f_is_above g.fd_is_above P_is_above (spF 0 S_is_above) := by
  refine okD g.F_is_above sc_is_above len_is_above (fun cdv A outer s H E hr => ?_)
  have nd := (sc_is_above).nd
  refine ⟨_, SDs.cost (sds_cons (sd_ret (pd_or (pd_cmp op_isA od_is ((pd_var (pv 2))).toSh (pd_non).toSh (nomark _)) (pd_one (pd_cmp op_lt od_C ((pd_tindex (pd_var (pv 0)) (pd_var (pv 1)))).toSh ((pd_tindex (pd_var (pv 0)) (pd_var (pv 2)))).toSh (nomark _))))) sds_nil) (by decide), fun ds Q h => ?_⟩
  obtain ⟨r, a, o, rfl, h1, h2, h3⟩ := h
  simp
  cases o with
  | none => exact .inr ⟨rfl, h3⟩
  | some b =>
    obtain ⟨g1, g2⟩ := dTIx_at h1
    obtain ⟨g3, g4⟩ := dTIx_at (h2 b rfl)
    refine .inl ⟨rfl, _, rfl, by simp, ixo r a, nD a, g1, by simp, g2, _, rfl, by simp, ixo r b, nD b, g3, by simp [oD], g4, h3⟩
end
end K90
set_option maxRecDepth 100000
set_option maxHeartbeats 4000000
namespace K90
open PySem PySem.Spec PyProof.Rows L2 RZ DL
open C8 (call_isC pe_gc InsC)
open M90
theorem pfS {l r : List (List Nat)} : putFD "rights" (rks r) (putFD "lefts" (rks l) []) = fsS l r := by rfl
theorem pf1 {f : Str} {a : Dat} : (putFD f a []).length < 1000 := by simp [putFD]
def S_init_Sides : List Dat → (List (Str × Dat) → Prop) → Prop := fun ds P => ∃ l r, ds = [rks l, rks r] ∧ SidesOk l r ∧ P (fsS l r)
theorem len_init_Sides (ds : List Dat) (Q : List (Str × Dat) → Prop) (h : S_init_Sides ds Q) : ds.length + 1 = Pi_Sides.length := by
  obtain ⟨l, r, rfl, _⟩ := h; rfl
section
variable {P : Program} {w : World} {K : PySem.W.Frag} {mg : Str → Option Value} {base : Heap}
theorem okI_Sides (g : Fx K mg) : FnOk P w K mg base L2.CX0 6 g.fi_Sides g.fdi_Sides Pi_Sides (spI 0 g.C_Sides S_init_Sides) := by
  refine okI g.Fi_Sides sci_Sides len_init_Sides (fun cdv A outer s H E hr => ?_)
  have nd := (sci_Sides).nd
  refine ⟨_, SIs.cost (si_chk (sd_drop (pd_call (ok_check_rankings g) (hr.mono (by decide)) (by rfl) g.g_check_rankings g.F_check_rankings.kp (b_check_rankings g) (pad_cons (pd_var (pv 1)) (pad_cons (pd_var (pv 2)) pad_nil)))) (si_set g.cl_Sides g.na_Sides_lefts (pv 0) (pd_var (pv 1)) (si_set g.cl_Sides g.na_Sides_rights (pv 0) (pd_var (pv 2)) si_nil))) (by decide), fun ds Q p h => ?_⟩
  obtain ⟨l, r, rfl, h1, h2⟩ := h
  simp
  exact ⟨l, r, rfl, h1, pf1, by rw [pfS]; exact h2⟩
end
def S_are_counts : List Dat → (Dat → Prop) → Prop := fun ds P => ∃ (r : List Nat) (n m : Nat), ds = [rk r, nD n, nD m] ∧ r.length = n ∧ n ≤ 1000 ∧ (∀ x ∈ r, x ≤ m) ∧ P (.bl true)
theorem len_are_counts (ds : List Dat) (Q : Dat → Prop) (h : S_are_counts ds Q) : ds.length = P_are_counts.length := by
  obtain ⟨l, r, m, rfl, _⟩ := h; rfl
section
variable {P : Program} {w : World} {K : PySem.W.Frag} {mg : Str → Option Value} {base : Heap}
theorem ok_are_counts (g : Fx K mg) : FnOk P w K mg base L2.CX0 3 g.f_are_counts g.fd_are_counts P_are_counts (spF 0 S_are_counts) := by
  refine okD g.F_are_counts sc_are_counts len_are_counts (fun cdv A outer s H E hr => ?_)
  have nd := (sc_are_counts).nd
  refine ⟨_, SDs.cost (sds_cons (sd_ret (pd_and (pd_callB call_isi cd_isi (by rfl) g.b_isinstance boot_isinstance (phd_cons ((pd_var (pv 0))).toSh (phd_cons ((pd_ty (pe_bltn (by rfl) g.b_tuple boot_tuple rfl))).toSh phd_nil))) (pd_and (pd_cmp (op_eqD (ru0 hr)) od_eq ((pd_callB call_lenA cd_len (by rfl) g.b_len boot_len (phd_cons ((pd_var (pv 0))).toSh phd_nil))).toSh ((pd_var (pv 1))).toSh (nomark _)) (pd_one (pd_callB (cr_all rfl) cd_all (by rfl) g.b_all boot_all (phd_cons ((pd_lc 1024 rfl nd (pid_tup (pd_var (pv 0))) (blkOk_by (own := [("item", 3)]) (by kernel_rfl)) (fun _ _ _ _ _ => (pgd_name (i := 3) nd rfl (by first | exact .inl rfl | exact .inr rfl))) (fun _ _ _ _ _ => ptsd_nil) (fun _ _ _ _ _ => (pd_call (ok_is_below g) (hr.mono (by decide)) (by rfl) g.g_is_below g.F_is_below.kp (b_is_below g) (pad_cons (pd_var (pv 3)) (pad_cons (pd_op op_addA od_add ((pd_var (pv 2))).toSh (pd_int).toSh) pad_nil)))))).toSh phd_nil)))))) sds_nil) (by decide), fun ds Q h => ?_⟩
  obtain ⟨r, n, m, rfl, h1, h2, h3, h4⟩ := h
  simp
  refine .inr ⟨?_, ?_⟩
  · show eqD (.int r.length) (.int n) = true
    simp [h1]
  refine ⟨_, rfl, _, rfl, lcp (fun _ => some (.bl true)) ?_ (fun d hd R hR => ?_) ?_⟩
  · simp; omega
  · obtain ⟨x, hx, rfl⟩ := List.mem_map.mp hd
    simp
    refine ⟨x, m + 1, rfl, ?_⟩
    have := h3 x hx
    simpa [show (x : Int) < (m : Int) + 1 by omega] using hR
  · rw [fm_const]
    refine ⟨_, blsD_rep, ?_⟩
    rw [all_rep]
    exact h4
end
theorem pfP {V : PL} : putFD "limits" (rks V.limits) (putFD "groups" (rk V.groups) (putFD "seats" (rk V.seats) (putFD "rights" (rks V.rights) (putFD "lefts" (rks V.lefts) [])))) = fsP V := by rfl
theorem pf2 {V : PL} : (putFD "rights" (rks V.rights) (putFD "lefts" (rks V.lefts) [])).length < 1000 := by rw [show putFD "rights" (rks V.rights) (putFD "lefts" (rks V.lefts) []) = ([("lefts", rks V.lefts), ("rights", rks V.rights)] : List (Str × Dat)) by rfl]; simp
theorem pf3 {V : PL} : (putFD "seats" (rk V.seats) (putFD "rights" (rks V.rights) (putFD "lefts" (rks V.lefts) []))).length < 1000 := by rw [show putFD "seats" (rk V.seats) (putFD "rights" (rks V.rights) (putFD "lefts" (rks V.lefts) [])) = ([("lefts", rks V.lefts), ("rights", rks V.rights), ("seats", rk V.seats)] : List (Str × Dat)) by rfl]; simp
theorem pf4 {V : PL} : (putFD "groups" (rk V.groups) (putFD "seats" (rk V.seats) (putFD "rights" (rks V.rights) (putFD "lefts" (rks V.lefts) [])))).length < 1000 := by rw [show putFD "groups" (rk V.groups) (putFD "seats" (rk V.seats) (putFD "rights" (rks V.rights) (putFD "lefts" (rks V.lefts) []))) = ([("lefts", rks V.lefts), ("rights", rks V.rights), ("seats", rk V.seats), ("groups", rk V.groups)] : List (Str × Dat)) by rfl]; simp
def S_init_Places : List Dat → (List (Str × Dat) → Prop) → Prop := fun ds P => ∃ V : PL, ds = [rks V.lefts, rks V.rights, rk V.seats, rk V.groups, rks V.limits] ∧ V.Ok ∧ P (fsP V)
theorem len_init_Places (ds : List Dat) (Q : List (Str × Dat) → Prop) (h : S_init_Places ds Q) : ds.length + 1 = Pi_Places.length := by
  obtain ⟨V, rfl, _⟩ := h; rfl
section
variable {P : Program} {w : World} {K : PySem.W.Frag} {mg : Str → Option Value} {base : Heap}
theorem okI_Places (g : Fx K mg) : FnOk P w K mg base L2.CX0 6 g.fi_Places g.fdi_Places Pi_Places (spI 0 g.C_Places S_init_Places) := by
  refine okI g.Fi_Places sci_Places len_init_Places (fun cdv A outer s H E hr => ?_)
  have nd := (sci_Places).nd
  refine ⟨_, SIs.cost (si_chk (sd_drop (pd_call (ok_check_rankings g) (hr.mono (by decide)) (by rfl) g.g_check_rankings g.F_check_rankings.kp (b_check_rankings g) (pad_cons (pd_var (pv 1)) (pad_cons (pd_var (pv 2)) pad_nil)))) (si_chk (sd_if (ptd_not (ptd_val (pd_call (ok_are_counts g) (hr.mono (by decide)) (by rfl) g.g_are_counts g.F_are_counts.kp (b_are_counts g) (pad_cons (pd_var (pv 3)) (pad_cons (pd_callB call_lenA cd_len (by rfl) g.b_len boot_len (phd_cons ((pd_var (pv 2))).toSh phd_nil)) (pad_cons (pd_gi (by rfl) g.i_MOST_SEATS) pad_nil)))))) (sds_cons sd_never sds_nil) sds_nil) (si_chk (sd_if (ptd_not (ptd_val (pd_call (ok_are_counts g) (hr.mono (by decide)) (by rfl) g.g_are_counts g.F_are_counts.kp (b_are_counts g) (pad_cons (pd_var (pv 4)) (pad_cons (pd_callB call_lenA cd_len (by rfl) g.b_len boot_len (phd_cons ((pd_var (pv 1))).toSh phd_nil)) (pad_cons (pd_op op_sub od_I0 ((pd_gi (by rfl) g.i_GROUPS)).toSh (pd_int).toSh) pad_nil)))))) (sds_cons sd_never sds_nil) sds_nil) (si_chk (sd_if ((pwd_or (ptd_not (ptd_val (pd_callB call_isi cd_isi (by rfl) g.b_isinstance boot_isinstance (phd_cons ((pd_var (pv 5))).toSh (phd_cons ((pd_ty (pe_bltn (by rfl) g.b_tuple boot_tuple rfl))).toSh phd_nil))))) (pwd_or1 (ptd_cmp (op_neD (ru0 hr)) od_ne ((pd_callB call_lenA cd_len (by rfl) g.b_len boot_len (phd_cons ((pd_var (pv 5))).toSh phd_nil))).toSh ((pd_callB call_lenA cd_len (by rfl) g.b_len boot_len (phd_cons ((pd_var (pv 2))).toSh phd_nil))).toSh (nomark _))))).pt (sds_cons sd_never sds_nil) sds_nil) (si_chk (sd_if (ptd_not (ptd_val (pd_callB (cr_all rfl) cd_all (by rfl) g.b_all boot_all (phd_cons ((pd_lc 1024 rfl nd (pid_tup (pd_var (pv 5))) (blkOk_by (own := [("row", 6)]) (by kernel_rfl)) (fun _ _ _ _ _ => (pgd_name (i := 6) nd rfl (by first | exact .inl rfl | exact .inr rfl))) (fun _ _ _ _ _ => ptsd_nil) (fun _ _ _ _ _ => (pd_call (ok_are_counts g) (hr.mono (by decide)) (by rfl) g.g_are_counts g.F_are_counts.kp (b_are_counts g) (pad_cons (pd_var (pv 6)) (pad_cons (pd_gi (by rfl) g.i_GROUPS) (pad_cons (pd_gi (by rfl) g.i_MOST_SEATS) pad_nil))))))).toSh phd_nil)))) (sds_cons sd_never sds_nil) sds_nil) (si_set g.cl_Places g.na_Places_lefts (pv 0) (pd_var (pv 1)) (si_set g.cl_Places g.na_Places_rights (pv 0) (pd_var (pv 2)) (si_set g.cl_Places g.na_Places_seats (pv 0) (pd_var (pv 3)) (si_set g.cl_Places g.na_Places_groups (pv 0) (pd_var (pv 4)) (si_set g.cl_Places g.na_Places_limits (pv 0) (pd_var (pv 5)) si_nil)))))))))) (by decide), fun ds Q p h => ?_⟩
  obtain ⟨V, rfl, h1, h2⟩ := h
  simp
  have l1 := h1.sd.1.2.1
  have l2 := h1.sd.2.1.2.1
  refine ⟨V.lefts, V.rights, rfl, h1.sd, V.seats, V.rights.length, 20, rfl, h1.se.1, by omega, h1.se.2, rfl, V.groups, V.lefts.length, 3, rfl, h1.gr.1, by omega, fun x hx => ?_, rfl, by rw [h1.li.1], ?_⟩
  · have := h1.gr.2 x hx; omega
  refine ⟨_, rfl, _, rfl, lcp (fun _ => some (.bl true)) ?_ (fun d hd R hR => ?_) ?_⟩
  · simp; have := h1.li.1; omega
  · obtain ⟨r, hr, rfl⟩ := List.mem_map.mp hd
    simp
    have := h1.li.2 r hr
    exact ⟨r, 4, 20, rfl, this.1, by omega, this.2, hR⟩
  · rw [fm_const]
    refine ⟨_, blsD_rep, ?_⟩
    rw [all_rep]
    exact ⟨rfl, pf1, pf2, pf3, pf4, by rw [pfP]; exact h2⟩
end
def S_check_right (C : Addr) : List Dat → (Dat → Prop) → Prop := fun ds P => ∃ (V : PL) (r : Nat), ds = [pPl C V, nD r] ∧ r < V.rights.length ∧ P .non
theorem len_check_right {C : Addr} (ds : List Dat) (Q : Dat → Prop) (h : S_check_right C ds Q) : ds.length = P_check_right.length := by
  obtain ⟨V, r, rfl, _⟩ := h; rfl
section
variable {P : Program} {w : World} {K : PySem.W.Frag} {mg : Str → Option Value} {base : Heap}
theorem ok_check_right (g : Fx K mg) : FnOk P w K mg base L2.CX0 3 g.f_check_right g.fd_check_right P_check_right (spF 0 (S_check_right g.C_Places)) := by
  refine okD g.F_check_right sc_check_right len_check_right (fun cdv A outer s H E hr => ?_)
  have nd := (sc_check_right).nd
  refine ⟨_, SDs.cost (sds_cons (sd_if (ptd_not (ptd_val (pd_call (ok_is_below g) (hr.mono (by decide)) (by rfl) g.g_is_below g.F_is_below.kp (b_is_below g) (pad_cons (pd_var (pv 1)) (pad_cons (pd_callB call_lenA cd_len (by rfl) g.b_len boot_len (phd_cons ((pd_fld g.cl_Places g.na_Places_rights (pd_var (pv 0)))).toSh phd_nil)) pad_nil))))) (sds_cons sd_never sds_nil) sds_nil) sds_nil) (by decide), fun ds Q h => ?_⟩
  obtain ⟨V, r, rfl, h1, h2⟩ := h
  simp [pPl]
  refine ⟨r, V.rights.length, rfl, ?_⟩
  simpa [h1] using h2
end
def memb (o : List (Option Nat)) (r : Nat) : List Nat := (List.range o.length).filter fun l => decide (oat o l = some r)
theorem rng0 {n : Nat} : rngD 0 n = (List.range n).map nD := by simp [rngD, nD]
theorem enum_map {α : Type} {l : List α} {F : α → Dat} : enumD (l.map F) = l.zipIdx.map fun q => .tup [nD q.2, F q.1] := by
  apply List.ext_getElem?
  intro i
  rw [enumD_get, List.getElem?_map, List.getElem?_map, List.getElem?_zipIdx]
  cases l[i]? <;> simp [nD]
theorem oat_lt {o : List (Option Nat)} {i : Nat} (h : i < o.length) : oat o i = o[i] := by simp [oat, h]
theorem enum_out {o : List (Option Nat)} : enumD (o.map oD) = (List.range o.length).map fun i => .tup [nD i, oD (oat o i)] := by
  apply List.ext_getElem?
  intro i
  rw [enumD_get, List.getElem?_map, List.getElem?_map]
  by_cases h : i < o.length
  · simp [h, oat, nD]
  · simp [h]
@[simp] theorem eqD_on {o : Option Nat} {r : Nat} : eqD (oD o) (nD r) = decide (o = some r) := by
  cases o with
  | none => rfl
  | some a => simp [oD]
def S_members_of : List Dat → (Dat → Prop) → Prop := fun ds P => ∃ (o : List (Option Nat)) (r : Nat), ds = [outD o, nD r] ∧ o.length ≤ 1000 ∧ P (.lst ((memb o r).map nD))
theorem len_members_of (ds : List Dat) (Q : Dat → Prop) (h : S_members_of ds Q) : ds.length = P_members_of.length := by
  obtain ⟨V, r, rfl, _⟩ := h; rfl
section
variable {P : Program} {w : World} {K : PySem.W.Frag} {mg : Str → Option Value} {base : Heap}
theorem ok_members_of (g : Fx K mg) : FnOk P w K mg base L2.CX0 1 g.f_members_of g.fd_members_of P_members_of (spF 0 S_members_of) := by
  refine okD g.F_members_of sc_members_of len_members_of (fun cdv A outer s H E hr => ?_)
  have nd := (sc_members_of).nd
  refine ⟨_, SDs.cost (sds_cons (sd_ret ((pd_lc 1024 rfl nd (pid_enum (by rfl) g.b_enumerate (pad_cons (pd_var (pv 0)) pad_nil)) (blkOk_by (own := [("left", 2), ("own", 3)]) (by kernel_rfl)) (fun _ _ _ _ _ => (pgd_tup (n := 2) rfl (pgsd_cons (pgd_name (i := 2) nd rfl (by first | exact .inl rfl | exact .inr rfl)) (pgsd_cons (pgd_name (i := 3) nd rfl (by first | exact .inl rfl | exact .inr rfl)) pgsd_nil)))) (fun _ _ _ _ _ => (ptsd_one (ptd_cmp (op_eqD (ru0 hr)) od_eq ((pd_var (pv 3))).toSh ((pd_var (pv 1))).toSh (nomark _)))) (fun _ _ _ _ _ => (pd_var (pv 2))))).frz) sds_nil) (by decide), fun ds Q h => ?_⟩
  obtain ⟨o, r, rfl, h1, h2⟩ := h
  simp
  refine ⟨_, rfl, _, _, rfl, .inr rfl, lcm (List.range o.length) _ (fun i => if decide (oat o i = some r) = true then some (nD i) else none) enum_out ?_ (fun i hi R hR => ?_) ?_⟩
  · simp; omega
  · simp
    by_cases h : oat o i = some r
    · exact .inr ⟨h, by simpa [h] using hR⟩
    · exact .inl ⟨h, by simpa [h] using hR⟩
  · rw [fm_if]
    exact h2
end
end K90
set_option maxRecDepth 100000
set_option maxHeartbeats 4000000
namespace K90
open PySem PySem.Spec PyProof.Rows L2 RZ DL
open C8 (call_isC pe_gc InsC)
open M90
def ChL (V : PL) (r : Nat) (S : Nat → Bool) : List Nat := grd (at0 V.groups) (row V.rights r) (at0 V.seats r) (at0 (row V.limits r)) S
def asc (n : Nat) (p : Nat → Bool) : List Nat := (List.range n).filter p
def takenL (V : PL) (r : Nat) (S : Nat → Bool) : List Nat := asc V.lefts.length fun l => decide (l ∈ ChL V r S)
theorem at0_get {r : List Nat} {a : Nat} (h : a < r.length) : r[a]? = some (at0 r a) := by simp [at0, h]
theorem at0_set_same {r : List Nat} {a v : Nat} (h : a < r.length) : at0 (r.set a v) a = v := by simp [at0, h]
theorem at0_set_ne {r : List Nat} {a b v : Nat} (h : b ≠ a) : at0 (r.set a v) b = at0 r b := by simp [at0, List.getElem?_set_ne (Ne.symm h)]
theorem row_mem {ls : List (List Nat)} {a : Nat} (h : a < ls.length) : row ls a ∈ ls := by
  unfold row
  rw [List.getD_eq_getElem?_getD, List.getElem?_eq_getElem h]
  simp
theorem at0_mem {r : List Nat} {a : Nat} (h : a < r.length) : at0 r a ∈ r := by
  unfold at0
  rw [List.getD_eq_getElem?_getD, List.getElem?_eq_getElem h]
  simp
theorem asc_unique {n : Nat} {F : List Nat} {ms : List Int} (hF : F.Nodup) (hn : ∀ x ∈ F, x < n) (hp : ms.Perm (F.map fun (x : Nat) => (x : Int))) (hs : ms.Pairwise (· ≤ ·)) : ms = (asc n fun l => decide (l ∈ F)).map fun (x : Nat) => (x : Int) := by
  have h1 : (asc n fun l => decide (l ∈ F)).Perm F := by
    refine (List.perm_ext_iff_of_nodup (List.Pairwise.filter _ List.nodup_range) hF).mpr ?_
    intro a
    simp only [List.mem_filter, List.mem_range, decide_eq_true_eq]
    exact ⟨fun h => h.2, fun h => ⟨hn a h, h⟩⟩
  have h2 : ms.Perm ((asc n fun l => decide (l ∈ F)).map fun (x : Nat) => (x : Int)) := hp.trans (h1.map _).symm
  refine h2.eq_of_pairwise (le := (· ≤ ·)) (fun a b _ _ h h' => by omega) hs ?_
  rw [List.pairwise_map]
  have : (List.range n).Pairwise (· ≤ ·) := List.pairwise_le_range
  exact (this.filter _).imp fun h => by omega
def taken_Iv (C : Addr) (V : PL) (r : Nat) (M : List Nat) (i : Nat) (ε : Ev) : Prop := ∃ (c F : List Nat) (x5 x6 : Sl), ε = [Sl.val (pPl C V), Sl.val (nD r), Sl.val (Dat.lst (List.map nD M)), Sl.own (.lst (c.map nD)), Sl.own (.lst (F.map nD)), x5, x6] ∧ c.length = 4 ∧ F.length ≤ i ∧
  ChL V r (fun l => decide (l ∈ M)) = F ++ grd (at0 V.groups) ((row V.rights r).drop i) (at0 V.seats r - F.length) (fun q => at0 (row V.limits r) q - at0 c q) (fun l => decide (l ∈ M))
def S_taken_of (C : Addr) : List Dat → (Dat → Prop) → Prop := fun ds P => ∃ (V : PL) (r : Nat) (M : List Nat), ds = [pPl C V, nD r, .lst (M.map nD)] ∧ V.Ok ∧ r < V.rights.length ∧ P (.lst ((takenL V r fun l => decide (l ∈ M)).map nD))
theorem len_taken_of {C : Addr} (ds : List Dat) (Q : Dat → Prop) (h : S_taken_of C ds Q) : ds.length = P_taken_of.length := by
  obtain ⟨V, r, M, rfl, _⟩ := h; rfl
section
variable {P : Program} {w : World} {K : PySem.W.Frag} {mg : Str → Option Value} {base : Heap}
theorem ok_taken_of (g : Fx K mg) : FnOk P w K mg base L2.CX0 1 g.f_taken_of g.fd_taken_of P_taken_of (spF 0 (S_taken_of g.C_Places)) := by
  refine okD g.F_taken_of sc_taken_of len_taken_of (fun cdv A outer s H E hr => ?_)
  have nd := (sc_taken_of).nd
  refine ⟨_, SDs.cost (sds_cons (sd_par (i := 3) (j := 4) (pmd_cons (m := .fr) (pd_op op_rep od_repL ((pd_lst (pad_cons pd_int pad_nil))).toSh ((pd_gi (by rfl) g.i_GROUPS)).toSh) (pmd_cons (m := .fr) (pd_lst pad_nil) pmd_nil)) rfl rfl nd rfl rfl (by decide) rfl rfl (by rfl)) (sds_cons (sd_for 1024 PassesOwn.never rfl (pid_tup (pd_ix (ix_all (ru1 hr)) od_ix ((pd_fld g.cl_Places g.na_Places_rights (pd_var (pv 0)))).toSh ((pd_var (pv 1))).toSh (fun _ _ => rfl))) (pgd_name (i := 5) nd rfl (.inl rfl)) (sds_cons (sd_asg (i := 6) (pd_ix (ix_all (ru1 hr)) od_ix ((pd_fld g.cl_Places g.na_Places_groups (pd_var (pv 0)))).toSh ((pd_var (pv 5))).toSh (fun _ _ => rfl)) nd rfl (.inl rfl)) (sds_cons (sd_if ((pwd_and (ptd_cmp (op_inA (ru hr)) od_in ((pd_var (pv 5))).toSh ((pd_var (pv 2))).toSh (by with_unfolding_all rfl)) (pwd_and (ptd_cmp op_lt od_C ((pd_callB call_lenA cd_len (by rfl) g.b_len boot_len (phd_cons (pd_varS (pv 4)) phd_nil))).toSh ((pd_ix (ix_all (ru1 hr)) od_ix ((pd_fld g.cl_Places g.na_Places_seats (pd_var (pv 0)))).toSh ((pd_var (pv 1))).toSh (fun _ _ => rfl))).toSh (nomark _)) (pwd_and1 (ptd_cmp op_lt od_C ((pd_ix (ix_all (ru1 hr)) od_ix (pd_varS (pv 3)) ((pd_var (pv 6))).toSh (fun _ _ => rfl))).toSh ((pd_ix (ix_all (ru1 hr)) od_ix ((pd_ix (ix_all (ru1 hr)) od_ix ((pd_fld g.cl_Places g.na_Places_limits (pd_var (pv 0)))).toSh ((pd_var (pv 1))).toSh (fun _ _ => rfl))).toSh ((pd_var (pv 6))).toSh (fun _ _ => rfl))).toSh (nomark _)))))).pt (sds_cons (sd_augL (pv 3) (pd_var (pv 6)) pd_int) (sds_cons (sd_app (pv 4) (pd_var (pv 5))) sds_nil)) sds_nil) sds_nil))) (sds_cons (sd_ret ((pd_callB call_sortedA cd_sorted (by rfl) g.b_sorted boot_sorted (phd_cons (pd_varS (pv 4)) phd_nil))).frz) sds_nil))) (by decide), fun ds Q h => ?_⟩
  obtain ⟨V, r, M, rfl, ok, hr, hQ⟩ := h
  simp
  have hlr := ok.sd.2.1.2.2 _ (row_mem hr)
  have hr1 : r < V.seats.length := by rw [ok.se.1]; exact hr
  have hr2 : r < V.limits.length := by rw [ok.li.1]; exact hr
  have hlim := ok.li.2 _ (row_mem hr2)
  refine for_tup (ds := (row V.rights r).map nD) (fun P h => ?_) (by have := hlr.len; simp; omega) (taken_Iv g.C_Places V r M)
    ⟨[0, 0, 0, 0], [], .off, .off, rfl, rfl, Nat.le_refl _, ?_⟩ (fun i d ε hd ⟨c, F, x5, x6, hε, hc, hFl, hF⟩ => ?_) (fun ε ⟨c, F, x5, x6, hε, hc, hFl, hF⟩ => ?_)
  · simp [pPl]
    rw [fIx_rks hr]
    exact h
  · simp
    unfold ChL
    refine (grd_congr (fun _ _ => rfl) fun l hl => ?_).symm
    have : ∀ q, at0 [0, 0, 0, 0] q = 0 := fun q => by
      unfold at0
      match q with
      | 0 => rfl
      | 1 => rfl
      | 2 => rfl
      | 3 => rfl
      | q + 4 => rfl
    rw [this]
    omega
  · subst hε
    rw [List.getElem?_map] at hd
    cases e : (row V.rights r)[i]? with
    | none => rw [e] at hd; cases hd
    | some l =>
      rw [e] at hd
      cases hd
      obtain ⟨hil, hie⟩ := List.getElem?_eq_some_iff.mp e
      have hl : l < V.lefts.length := hlr.2.1 l (List.mem_of_getElem? e)
      have hlg : l < V.groups.length := by rw [ok.gr.1]; exact hl
      have hg4 : at0 V.groups l < 4 := ok.gr.2 _ (at0_mem hlg)
      have hdrop : (row V.rights r).drop i = l :: (row V.rights r).drop (i + 1) := by rw [List.drop_eq_getElem_cons hil, hie]
      rw [hdrop] at hF
      unfold grd at hF
      simp [pPl]
      rw [fIx_rk hlg]
      have stay : ¬ (decide (l ∈ M) && decide (0 < at0 V.seats r - F.length) && decide (0 < at0 (row V.limits r) (at0 V.groups l) - at0 c (at0 V.groups l))) = true → taken_Iv g.C_Places V r M (i + 1) [Sl.val (Dat.obj g.C_Places (fsP V)), Sl.val (nD r), Sl.val (Dat.lst (List.map nD M)), Sl.own (Dat.lst (List.map nD c)), Sl.own (Dat.lst (List.map nD F)), Sl.val (nD l), Sl.val (nD (at0 V.groups l))] := fun hn =>
        ⟨c, F, _, _, rfl, hc, by omega, by rw [if_neg hn] at hF; exact hF⟩
      by_cases h1 : l ∈ M
      · refine .inr ⟨h1, ?_⟩
        rw [fIx_rk hr1]
        simp
        by_cases h2 : F.length < at0 V.seats r
        · refine .inr ⟨h2, ?_⟩
          have hgc : at0 V.groups l < c.length := by omega
          rw [fIx_lst hgc, fIx_rks hr2, fIx_rk (by omega)]
          simp
          by_cases h3 : at0 c (at0 V.groups l) < at0 (row V.limits r) (at0 V.groups l)
          · refine .inr ⟨h3, at0 V.groups l, rfl, at0 c (at0 V.groups l), ⟨at0 c (at0 V.groups l), at0_get hgc, rfl⟩, ?_, ?_⟩
            · have := hlr.len; omega
            · rw [if_pos (by simp [h1]; omega)] at hF
              refine ⟨c.set (at0 V.groups l) (at0 c (at0 V.groups l) + 1), F ++ [l], Sl.val (nD l), Sl.val (nD (at0 V.groups l)), ?_, by simpa using hc, by simp; omega, ?_⟩
              · rw [List.map_set, List.map_append]; rfl
              · rw [hF, List.append_assoc]
                congr 1
                rw [List.length_append, List.length_singleton, show at0 V.seats r - (F.length + 1) = at0 V.seats r - F.length - 1 by omega]
                show l :: _ = l :: _
                congr 1
                refine grd_congr (fun _ _ => rfl) fun l' _ => ?_
                by_cases e2 : at0 V.groups l' = at0 V.groups l
                · simp only [e2, if_true]
                  have : at0 (c.set (at0 V.groups l) (at0 c (at0 V.groups l) + 1)) (at0 V.groups l) = at0 c (at0 V.groups l) + 1 := at0_set_same hgc
                  rw [this]
                  omega
                · simp only [if_neg e2]
                  have : at0 (c.set (at0 V.groups l) (at0 c (at0 V.groups l) + 1)) (at0 V.groups l') = at0 c (at0 V.groups l') := at0_set_ne e2
                  rw [this]
          · exact .inl ⟨by omega, stay (by simp [h1]; omega)⟩
        · exact .inl ⟨by omega, stay (by simp [h1]; omega)⟩
      · exact .inl ⟨fun x hx e => h1 (e ▸ hx), stay (by simp [h1])⟩
  · subst hε
    simp at hF
    have hnd : F.Nodup := by
      have : (ChL V r fun l => decide (l ∈ M)).Nodup := grd_nodup hlr.1
      rw [hF] at this
      simpa [grd] using this
    have hsub : ∀ x ∈ F, x < V.lefts.length := fun x hx => by
      have h1 : x ∈ ChL V r fun l => decide (l ∈ M) := by rw [hF]; simp [hx]
      exact hlr.2.1 x (grd_sub h1).1
    simp
    intro ms h1 h2
    rw [asc_unique hnd hsub h1 h2]
    have e1 : (ChL V r fun l => decide (l ∈ M)) = F := by rw [hF]; simp [grd]
    unfold takenL at hQ
    rw [e1] at hQ
    rw [List.map_map]
    exact hQ
end
end K90
set_option maxRecDepth 100000
set_option maxHeartbeats 4000000
namespace K90
open PySem PySem.Spec PyProof.Rows L2 RZ DL
open C8 (call_isC pe_gc InsC)
open M90
structure IsOut (V : PL) (o : List (Option Nat)) : Prop where
  len : o.length = V.lefts.length
  fit : ∀ l r, oat o l = some r → l < V.lefts.length → r < V.rights.length ∧ fitB V.lefts V.rights l r = true
  tak : ∀ r, r < V.rights.length → takenL V r (fun l => decide (l ∈ memb o r)) = memb o r
theorem eqDs_nD {xs ys : List Nat} : eqDs (xs.map nD) (ys.map nD) = decide (xs = ys) := by
  induction xs generalizing ys with
  | nil => cases ys <;> simp [eqDs]
  | cons x xs ih =>
    cases ys with
    | nil => simp [eqDs]
    | cons y ys => simp [eqDs, ih]
@[simp] theorem eqD_lnD {xs ys : List Nat} : eqD (.lst (xs.map nD)) (.lst (ys.map nD)) = decide (xs = ys) := by
  simp only [eqD, eqDs_nD]
theorem eqD_lnil {xs : List Dat} : eqD (.lst xs) (.lst []) = decide (xs = []) := by
  cases xs <;> simp [eqD, eqDs]
def S_is_outcome (C : Addr) : List Dat → (Dat → Prop) → Prop := fun ds P => ∃ (V : PL) (o : List (Option Nat)), ds = [pPl C V, outD o] ∧ V.Ok ∧ IsOut V o ∧ P (.bl true)
theorem len_is_outcome {C : Addr} (ds : List Dat) (Q : Dat → Prop) (h : S_is_outcome C ds Q) : ds.length = P_is_outcome.length := by
  obtain ⟨V, r, rfl, _⟩ := h; rfl
section
variable {P : Program} {w : World} {K : PySem.W.Frag} {mg : Str → Option Value} {base : Heap}
theorem ok_is_outcome (g : Fx K mg) : FnOk P w K mg base L2.CX0 3 g.f_is_outcome g.fd_is_outcome P_is_outcome (spF 0 (S_is_outcome g.C_Places)) := by
  refine okD g.F_is_outcome sc_is_outcome len_is_outcome (fun cdv A outer s H E hr => ?_)
  have nd := (sc_is_outcome).nd
  refine ⟨_, SDs.cost (sds_cons (sd_if ((pwd_or (ptd_not (ptd_val (pd_callB call_isi cd_isi (by rfl) g.b_isinstance boot_isinstance (phd_cons ((pd_var (pv 1))).toSh (phd_cons ((pd_ty (pe_bltn (by rfl) g.b_tuple boot_tuple rfl))).toSh phd_nil))))) (pwd_or1 (ptd_cmp (op_neD (ru0 hr)) od_ne ((pd_callB call_lenA cd_len (by rfl) g.b_len boot_len (phd_cons ((pd_var (pv 1))).toSh phd_nil))).toSh ((pd_callB call_lenA cd_len (by rfl) g.b_len boot_len (phd_cons ((pd_fld g.cl_Places g.na_Places_lefts (pd_var (pv 0)))).toSh phd_nil))).toSh (nomark _))))).pt (sds_cons (sd_ret pd_bl) sds_nil) sds_nil) (sds_cons (sd_if (ptd_not (ptd_val (pd_callB (cr_all rfl) cd_all (by rfl) g.b_all boot_all (phd_cons ((pd_lc 1024 rfl nd (pid_tup (pd_var (pv 1))) (blkOk_by (own := [("right", 3)]) (by kernel_rfl)) (fun _ _ _ _ _ => (pgd_name (i := 3) nd rfl (by first | exact .inl rfl | exact .inr rfl))) (fun _ _ _ _ _ => ptsd_nil) (fun _ _ _ _ _ => (pd_or (pd_cmp op_isA od_is ((pd_var (pv 3))).toSh (pd_non).toSh (nomark _)) (pd_one (pd_call (ok_is_below g) (hr.mono (by decide)) (by rfl) g.g_is_below g.F_is_below.kp (b_is_below g) (pad_cons (pd_var (pv 3)) (pad_cons (pd_callB call_lenA cd_len (by rfl) g.b_len boot_len (phd_cons ((pd_fld g.cl_Places g.na_Places_rights (pd_var (pv 0)))).toSh phd_nil)) pad_nil)))))))).toSh phd_nil)))) (sds_cons (sd_ret pd_bl) sds_nil) sds_nil) (sds_cons (sd_if (ptd_not (ptd_val (pd_callB (cr_all rfl) cd_all (by rfl) g.b_all boot_all (phd_cons ((pd_lc 1024 rfl nd (pid_enum (by rfl) g.b_enumerate (pad_cons (pd_var (pv 1)) pad_nil)) (blkOk_by (own := [("left", 5), ("right", 3)]) (by kernel_rfl)) (fun _ _ _ _ _ => (pgd_tup (n := 2) rfl (pgsd_cons (pgd_name (i := 5) nd rfl (by first | exact .inl rfl | exact .inr rfl)) (pgsd_cons (pgd_name (i := 3) nd rfl (by first | exact .inl rfl | exact .inr rfl)) pgsd_nil)))) (fun _ _ _ _ _ => ptsd_nil) (fun _ _ _ _ _ => (pd_or (pd_cmp op_isA od_is ((pd_var (pv 3))).toSh (pd_non).toSh (nomark _)) (pd_one (pd_call (ok_does_fit g) (hr.mono (by decide)) (by rfl) g.g_does_fit g.F_does_fit.kp (b_does_fit g) (pad_cons (pd_var (pv 0)) (pad_cons (pd_var (pv 5)) (pad_cons (pd_var (pv 3)) pad_nil))))))))).toSh phd_nil)))) (sds_cons (sd_ret pd_bl) sds_nil) sds_nil) (sds_cons (sd_setLc (i := 2) 1024 rfl nd rfl rfl (by rfl) (pid_range1 (by rfl) g.b_range (pad_cons (pd_callB call_lenA cd_len (by rfl) g.b_len boot_len (phd_cons ((pd_fld g.cl_Places g.na_Places_rights (pd_var (pv 0)))).toSh phd_nil)) pad_nil)) (blkOk_by (own := [("right", 3)]) (by kernel_rfl)) (fun _ _ _ _ _ => (pgd_name (i := 3) nd rfl (by first | exact .inl rfl | exact .inr rfl))) (fun _ _ _ _ _ => ptsd_nil) (fun _ _ _ _ _ => (pd_tup (pad_cons (pd_var (pv 3)) (pad_cons (pd_call (ok_members_of g) (hr.mono (by decide)) (by rfl) g.g_members_of g.F_members_of.kp (b_members_of g) (pad_cons (pd_var (pv 1)) (pad_cons (pd_var (pv 3)) pad_nil))) pad_nil))))) (sds_cons (((sd_ret (pd_callB (cr_all rfl) cd_all (by rfl) g.b_all boot_all (phd_cons ((pd_lc 1024 rfl nd (pid_list (pd_var (pv 2))) (blkOk_by (own := [("right", 3), ("members", 4)]) (by kernel_rfl)) (fun _ _ _ _ _ => (pgd_tup (n := 2) rfl (pgsd_cons (pgd_name (i := 3) nd rfl (by first | exact .inl rfl | exact .inr rfl)) (pgsd_cons (pgd_name (i := 4) nd rfl (by first | exact .inl rfl | exact .inr rfl)) pgsd_nil)))) (fun _ _ _ _ _ => ptsd_nil) (fun _ _ _ _ _ => (pd_cmp (op_eqD (ru0 hr)) od_eq ((pd_call (ok_taken_of g) (hr.mono (by decide)) (by rfl) g.g_taken_of g.F_taken_of.kp (b_taken_of g) (pad_cons (pd_var (pv 0)) (pad_cons (pd_var (pv 3)) (pad_cons (pd_var (pv 4)) pad_nil))))).toSh ((pd_var (pv 4))).toSh (nomark _))))).toSh phd_nil)))).frz 2) sds_nil))))) (by decide), fun ds Q h => ?_⟩
  obtain ⟨V, o, rfl, ok, io, hQ⟩ := h
  have hn := ok.sd.1.2.1
  have hm := ok.sd.2.1.2.1
  have hlen := io.len
  simp [pPl]
  refine .inl ⟨by omega, ?_⟩
  refine lc_tup o oD (fun _ => some (.bl true)) (fun P h => ⟨_, rfl, h⟩) (by omega) (fun a ha R hR => ?_) ?_
  · simp
    cases a with
    | none => exact .inr ⟨rfl, hR⟩
    | some r =>
      refine .inl ⟨rfl, r, V.rights.length, rfl, ?_⟩
      obtain ⟨i, hi, e⟩ := List.mem_iff_getElem.mp ha
      have := (io.fit i r (by rw [oat_lt hi]; exact e) (by omega)).1
      simpa [this] using hR
  rw [fm_const]
  refine ⟨_, blsD_rep, ?_⟩
  rw [all_rep]
  refine .inr ⟨rfl, ?_⟩
  refine lc_en (List.range o.length) _ (fun _ => some (.bl true)) (fun P h => ⟨_, rfl, h⟩) (.inr rfl) enum_out (by simp; omega) (fun i hi R hR => ?_) ?_
  · simp
    have hi' : i < o.length := List.mem_range.mp hi
    cases e : oat o i with
    | none => exact .inr ⟨rfl, hR⟩
    | some r =>
      obtain ⟨h1, h2⟩ := io.fit i r e (by omega)
      exact .inl ⟨rfl, V, i, r, rfl, by omega, h1, by rw [h2]; exact hR⟩
  rw [fm_const]
  refine ⟨_, blsD_rep, ?_⟩
  rw [all_rep]
  refine .inr ⟨rfl, ?_⟩
  refine lc_r1 (n := V.rights.length) (fun r => some (.tup [nD r, .lst ((memb o r).map nD)])) (fun P h => ?_) (by omega) (by omega) (fun r hr R hR => ?_) ?_
  · simp
    exact h
  · simp
    exact ⟨o, r, rfl, by omega, hR⟩
  rw [fm_map]
  refine lc_lst (List.range V.rights.length) _ (fun _ => some (.bl true)) (fun P h => ⟨_, rfl, h⟩) (by simp; omega) (fun r hr R hR => ?_) ?_
  · simp
    have hr' := List.mem_range.mp hr
    refine ⟨V, r, memb o r, rfl, ok, hr', ?_⟩
    rw [io.tak r hr']
    simp
    exact hR
  rw [fm_const]
  refine ⟨_, blsD_rep, ?_⟩
  rw [all_rep]
  exact hQ
end
def Blk (V : PL) (o : List (Option Nat)) (l r : Nat) : Prop := l < V.lefts.length ∧ r ∈ row V.lefts l ∧ fitB V.lefts V.rights l r = true ∧ oat o l ≠ some r ∧ abB (row V.lefts l) r (oat o l) = true ∧ l ∈ ChL V r (fun x => decide (x ∈ memb o r ++ [l]))
def pairD (q : Nat × Nat) : Dat := .tup [nD q.1, nD q.2]
def blk_Iv (C : Addr) (V : PL) (o : List (Option Nat)) (i : Nat) (ε : Ev) : Prop := ∃ (bs : List (Nat × Nat)) (x3 x4 x5 : Sl), ε = [Sl.val (Dat.obj C (fsP V)), Sl.val (outD o), Sl.own (.lst (bs.map pairD)), x3, x4, x5] ∧ bs.length ≤ i * 20 ∧ (bs = [] ↔ ∀ l r, l < i → ¬ Blk V o l r)
def blk_Iw (C : Addr) (V : PL) (o : List (Option Nat)) (i : Nat) (srt : List Nat) (j : Nat) (ε : Ev) : Prop := ∃ (bs : List (Nat × Nat)) (x5 : Sl), ε = [Sl.val (Dat.obj C (fsP V)), Sl.val (outD o), Sl.own (.lst (bs.map pairD)), Sl.val (nD i), Sl.val (rk (row V.lefts i)), x5] ∧ bs.length ≤ i * 20 + j ∧
  (bs = [] ↔ (∀ l r, l < i → ¬ Blk V o l r) ∧ ∀ r ∈ srt.take j, ¬ Blk V o i r)
@[simp] theorem eqD_no {o : Option Nat} {r : Nat} : eqD (nD r) (oD o) = decide (o = some r) := by
  cases o with
  | none => rfl
  | some a =>
    simp [oD]
    exact eq_comm
theorem fitB_iff {l r : List (List Nat)} {a b : Nat} : fitB l r a b = true ↔ b ∈ row l a ∧ a ∈ row r b := by simp [fitB]
theorem memb_len {o : List (Option Nat)} {r : Nat} : (memb o r).length ≤ o.length := by
  have := List.length_filter_le (fun l => decide (oat o l = some r)) (List.range o.length)
  simpa [memb] using this
theorem mem_asc {n : Nat} {p : Nat → Bool} {x : Nat} : x ∈ asc n p ↔ x < n ∧ p x = true := by simp [asc]
theorem mem_takenL {V : PL} {r : Nat} {S : Nat → Bool} {l : Nat} (ok : V.Ok) (hr : r < V.rights.length) : l ∈ takenL V r S ↔ l ∈ ChL V r S := by
  unfold takenL
  rw [mem_asc]
  simp only [decide_eq_true_eq]
  exact ⟨fun h => h.2, fun h => ⟨(ok.sd.2.1.2.2 _ (row_mem hr)).2.1 l (grd_sub h).1, h⟩⟩
theorem map_rks_get {ls : List (List Nat)} {i : Nat} {d : Dat} (h : (ls.map rk)[i]? = some d) : i < ls.length ∧ d = rk (row ls i) := by
  rw [List.getElem?_map] at h
  cases e : ls[i]? with
  | none => rw [e] at h; cases h
  | some r =>
    rw [e] at h
    cases h
    obtain ⟨h1, h2⟩ := List.getElem?_eq_some_iff.mp e
    refine ⟨h1, ?_⟩
    unfold row
    rw [List.getD_eq_getElem?_getD, e]
    rfl
theorem map_nD_get {r : List Nat} {i : Nat} {d : Dat} (h : (r.map nD)[i]? = some d) : i < r.length ∧ r[i]? = some (at0 r i) ∧ d = nD (at0 r i) := by
  rw [List.getElem?_map] at h
  cases e : r[i]? with
  | none => rw [e] at h; cases h
  | some x =>
    rw [e] at h
    cases h
    obtain ⟨h1, h2⟩ := List.getElem?_eq_some_iff.mp e
    have : at0 r i = x := by simp [at0, e]
    rw [this]
    exact ⟨h1, rfl, rfl⟩
theorem sorted_at {r : List Nat} {n : Nat} {P : Dat → Prop} (hn : r.Nodup) (hl : ∀ x ∈ r, x < n) (h : P (.lst ((asc n fun x => decide (x ∈ r)).map nD))) : fSorted [rk r] P := by
  refine ⟨_, intsD_nD, fun ms h1 h2 => ?_⟩
  rw [asc_unique hn hl h1 h2, List.map_map]
  exact h
theorem asc_len {n : Nat} {p : Nat → Bool} : (asc n p).length ≤ n := by
  have := List.length_filter_le p (List.range n)
  simpa [asc] using this
def S_blocks_in (C : Addr) : List Dat → (Dat → Prop) → Prop := fun ds P => ∃ (V : PL) (o : List (Option Nat)), ds = [pPl C V, outD o] ∧ V.Ok ∧ IsOut V o ∧ ∀ bs : List (Nat × Nat), (bs = [] ↔ ∀ l r, ¬ Blk V o l r) → P (.lst (bs.map pairD))
theorem len_blocks_in {C : Addr} (ds : List Dat) (Q : Dat → Prop) (h : S_blocks_in C ds Q) : ds.length = P_blocks_in.length := by
  obtain ⟨V, r, rfl, _⟩ := h; rfl
section
variable {P : Program} {w : World} {K : PySem.W.Frag} {mg : Str → Option Value} {base : Heap}
theorem ok_blocks_in (g : Fx K mg) : FnOk P w K mg base L2.CX0 2 g.f_blocks_in g.fd_blocks_in P_blocks_in (spF 0 (S_blocks_in g.C_Places)) := by
  refine okD g.F_blocks_in sc_blocks_in len_blocks_in (fun cdv A outer s H E hr => ?_)
  have nd := (sc_blocks_in).nd
  refine ⟨_, SDs.cost (sds_cons (sd_asgO (i := 2) (pd_lst pad_nil) nd rfl (.inl rfl)) (sds_cons (sd_for 1024 PassesOwn.never rfl (pid_enum (by rfl) g.b_enumerate (pad_cons (pd_fld g.cl_Places g.na_Places_lefts (pd_var (pv 0))) pad_nil)) (pgd_tup (n := 2) rfl (pgsd_cons (pgd_name (i := 3) nd rfl (.inl rfl)) (pgsd_cons (pgd_name (i := 4) nd rfl (.inl rfl)) pgsd_nil))) (sds_cons (sd_for 1024 PassesOwn.never rfl (pid_list ((pd_callB call_sortedA cd_sorted (by rfl) g.b_sorted boot_sorted (phd_cons ((pd_var (pv 4))).toSh phd_nil))).frz) (pgd_name (i := 5) nd rfl (.inl rfl)) (sds_cons (sd_if ((pwd_and (ptd_val (pd_call (ok_does_fit g) (hr.mono (by decide)) (by rfl) g.g_does_fit g.F_does_fit.kp (b_does_fit g) (pad_cons (pd_var (pv 0)) (pad_cons (pd_var (pv 3)) (pad_cons (pd_var (pv 5)) pad_nil))))) (pwd_and (ptd_cmp (op_neD (ru0 hr)) od_ne ((pd_var (pv 5))).toSh ((pd_ix (ix_all (ru1 hr)) od_ix ((pd_var (pv 1))).toSh ((pd_var (pv 3))).toSh (fun _ _ => rfl))).toSh (nomark _)) (pwd_and1 (ptd_val (pd_call (ok_is_above g) (hr.mono (by decide)) (by rfl) g.g_is_above g.F_is_above.kp (b_is_above g) (pad_cons (pd_var (pv 4)) (pad_cons (pd_var (pv 5)) (pad_cons (pd_ix (ix_all (ru1 hr)) od_ix ((pd_var (pv 1))).toSh ((pd_var (pv 3))).toSh (fun _ _ => rfl)) pad_nil))))))))).pt (sds_cons (sd_if (ptd_cmp (op_inA (ru hr)) od_in ((pd_var (pv 3))).toSh ((pd_call (ok_taken_of g) (hr.mono (by decide)) (by rfl) g.g_taken_of g.F_taken_of.kp (b_taken_of g) (pad_cons (pd_var (pv 0)) (pad_cons (pd_var (pv 5)) (pad_cons ((pd_lst (pad_star ((pd_call (ok_members_of g) (hr.mono (by decide)) (by rfl) g.g_members_of g.F_members_of.kp (b_members_of g) (pad_cons (pd_var (pv 1)) (pad_cons (pd_var (pv 5)) pad_nil)))).toSh (pad_cons (pd_var (pv 3)) pad_nil)))).frz pad_nil))))).toSh (by with_unfolding_all rfl)) (sds_cons (sd_app (pv 2) (pd_tup (pad_cons (pd_var (pv 3)) (pad_cons (pd_var (pv 5)) pad_nil)))) sds_nil) sds_nil) sds_nil) sds_nil) sds_nil)) sds_nil)) (sds_cons (((sd_ret (pd_var (pv 2)))).frz 2) sds_nil))) (by decide), fun ds Q h => ?_⟩
  obtain ⟨V, o, rfl, ok, io, hQ⟩ := h
  have hn := ok.sd.1.2.1
  have hm := ok.sd.2.1.2.1
  have hlen := io.len
  simp [pPl]
  refine for_en (ds := V.lefts.map rk) (d := rks V.lefts) (fun P h => ?_) (.inr rfl) (by simp; omega) (blk_Iv g.C_Places V o) ⟨[], .off, .off, .off, rfl, by simp, by simp⟩ (fun i d ε hd ⟨bs, x3, x4, x5, hε, hl, hb⟩ => ?_) (fun ε ⟨bs, x3, x4, x5, hε, hl, hb⟩ => ?_)
  · simp
    exact h
  · obtain ⟨hi, rfl⟩ := map_rks_get hd
    subst hε
    have hrow := ok.sd.1.2.2 _ (row_mem hi)
    simp
    refine for_lst (ds := (asc 20 fun x => decide (x ∈ row V.lefts i)).map nD) (fun P h => ⟨_, rfl, sorted_at hrow.1 hrow.2.1 h⟩) (by have := @asc_len 20 fun x => decide (x ∈ row V.lefts i); simp; omega)
      (blk_Iw g.C_Places V o i (asc 20 fun x => decide (x ∈ row V.lefts i))) ⟨bs, x5, rfl, by omega, by simpa using hb⟩ (fun j d ε hd ⟨bs, x5, hε, hl, hb⟩ => ?_) (fun ε ⟨bs, x5, hε, hl, hb⟩ => ?_)
    · obtain ⟨hj, hj2, rfl⟩ := map_nD_get hd
      subst hε
      have hmem := mem_asc.mp (List.mem_of_getElem? hj2)
      generalize hr0 : at0 (asc 20 fun x => decide (x ∈ row V.lefts i)) j = r at *
      have hrl : r ∈ row V.lefts i := by simpa using hmem.2
      have hrm : r < V.rights.length := ok.sd.2.2 _ (row_mem hi) r hrl
      have htake : (asc 20 fun x => decide (x ∈ row V.lefts i)).take (j + 1) = (asc 20 fun x => decide (x ∈ row V.lefts i)).take j ++ [r] := by
        rw [List.take_add_one, hj2]; rfl
      have step : ∀ x5 : Sl, (¬ Blk V o i r) → blk_Iw g.C_Places V o i (asc 20 fun x => decide (x ∈ row V.lefts i)) (j + 1) [Sl.val (Dat.obj g.C_Places (fsP V)), Sl.val (outD o), Sl.own (Dat.lst (List.map pairD bs)), Sl.val (nD i), Sl.val (rk (row V.lefts i)), x5] := fun x5 hnb =>
        ⟨bs, x5, rfl, by omega, by
          rw [hb, htake]
          constructor
          · rintro ⟨h1, h2⟩
            refine ⟨h1, fun q hq => ?_⟩
            rcases List.mem_append.mp hq with hq | hq
            · exact h2 q hq
            · rw [List.mem_singleton.mp hq]; exact hnb
          · rintro ⟨h1, h2⟩
            exact ⟨h1, fun q hq => h2 q (List.mem_append_left _ hq)⟩⟩
      simp
      have hio : i < o.length := by omega
      refine ⟨V, i, r, rfl, hi, hrm, ?_⟩
      by_cases hf : fitB V.lefts V.rights i r = true
      · refine .inr ⟨by rw [hf], ?_⟩
        rw [fIx_out hio]
        refine ⟨pl_oD, ?_⟩
        rw [eqD_no]
        by_cases ho : oat o i = some r
        · exact .inl ⟨by simpa using ho, step _ fun hB => hB.2.2.2.1 ho⟩
        refine .inr ⟨by simpa using ho, ?_⟩
        rw [fIx_out hio]
        refine ⟨row V.lefts i, r, oat o i, rfl, hrl, fun b hb => (fitB_iff.mp (io.fit i b hb hi).2).1, ?_⟩
        by_cases hab : abB (row V.lefts i) r (oat o i) = true
        · refine .inr ⟨by rw [hab], ?_⟩
          refine ⟨o, r, rfl, by omega, (memb o r).map nD, .inl rfl, by have := @memb_len o r; simp; omega, ?_⟩
          have e1 : (memb o r).map nD ++ [nD i] = (memb o r ++ [i]).map nD := by simp
          rw [e1]
          refine ⟨V, r, memb o r ++ [i], rfl, ok, hrm, ?_⟩
          simp only [fIn_lst]
          by_cases hc : i ∈ ChL V r (fun x => decide (x ∈ memb o r ++ [i]))
          · refine .inr ⟨by simpa using (mem_takenL ok hrm).mpr hc, by have : i * 20 ≤ 20 * 20 := Nat.mul_le_mul_right _ (by omega); have := @asc_len 20 fun x => decide (x ∈ row V.lefts i); omega, ?_⟩
            refine ⟨bs ++ [(i, r)], Sl.val (nD r), by rw [List.map_append]; rfl, by simp; omega, ?_⟩
            constructor
            · intro h; simp at h
            · rintro ⟨h1, h2⟩
              exact (h2 r (by rw [htake]; simp) ⟨hi, hrl, hf, ho, hab, hc⟩).elim
          · exact .inl ⟨by simpa using fun h => hc ((mem_takenL ok hrm).mp h), step _ fun hB => hc hB.2.2.2.2.2⟩
        · exact .inl ⟨by simpa using hab, step _ fun hB => hab hB.2.2.2.2.1⟩
      · exact .inl ⟨by simpa using hf, step _ fun hB => hf hB.2.2.1⟩
    · subst hε
      have e20 : (i + 1) * 20 = i * 20 + 20 := Nat.succ_mul _ _
      have hal := @asc_len 20 fun x => decide (x ∈ row V.lefts i)
      rw [List.length_map] at hl hb
      rw [List.take_length] at hb
      refine ⟨bs, _, _, x5, rfl, by omega, hb.trans ⟨fun ⟨h1, h2⟩ l r hlr hB => ?_, fun h => ⟨fun l r hl => h l r (by omega), fun r _ => h i r (by omega)⟩⟩⟩
      by_cases e : l = i
      · subst e
        exact h2 r (mem_asc.mpr ⟨by have := ok.sd.2.2 _ (row_mem hi) r hB.2.1; omega, by simpa using hB.2.1⟩) hB
      · exact h1 l r (by omega) hB
  · subst hε
    simp
    refine hQ bs (hb.trans ⟨fun h l r hB => ?_, fun h l r _ => h l r⟩)
    exact h l r (by simpa using hB.1) hB
end
def S_blocking_seats (C : Addr) : List Dat → (Dat → Prop) → Prop := fun ds P => ∃ (V : PL) (o : List (Option Nat)), ds = [pPl C V, outD o] ∧ V.Ok ∧ IsOut V o ∧ ∀ bs : List (Nat × Nat), (bs = [] ↔ ∀ l r, ¬ Blk V o l r) → P (.lst (bs.map pairD))
theorem len_blocking_seats {C : Addr} (ds : List Dat) (Q : Dat → Prop) (h : S_blocking_seats C ds Q) : ds.length = P_blocking_seats.length := by
  obtain ⟨V, r, rfl, _⟩ := h; rfl
section
variable {P : Program} {w : World} {K : PySem.W.Frag} {mg : Str → Option Value} {base : Heap}
theorem ok_blocking_seats (g : Fx K mg) : FnOk P w K mg base L2.CX0 4 g.f_blocking_seats g.fd_blocking_seats P_blocking_seats (spF 0 (S_blocking_seats g.C_Places)) := by
  refine okD g.F_blocking_seats sc_blocking_seats len_blocking_seats (fun cdv A outer s H E hr => ?_)
  have nd := (sc_blocking_seats).nd
  refine ⟨_, SDs.cost (sds_cons (sd_drop (pd_call (ok_check_places g) (hr.mono (by decide)) (by rfl) g.g_check_places g.F_check_places.kp (b_check_places g) (pad_cons (pd_var (pv 0)) pad_nil))) (sds_cons (sd_if (ptd_not (ptd_val (pd_call (ok_is_outcome g) (hr.mono (by decide)) (by rfl) g.g_is_outcome g.F_is_outcome.kp (b_is_outcome g) (pad_cons (pd_var (pv 0)) (pad_cons (pd_var (pv 1)) pad_nil))))) (sds_cons sd_never sds_nil) sds_nil) (sds_cons (sd_ret (pd_call (ok_blocks_in g) (hr.mono (by decide)) (by rfl) g.g_blocks_in g.F_blocks_in.kp (b_blocks_in g) (pad_cons (pd_var (pv 0)) (pad_cons (pd_var (pv 1)) pad_nil)))) sds_nil))) (by decide), fun ds Q h => ?_⟩
  obtain ⟨V, o, rfl, ok, io, hQ⟩ := h
  simp
  exact ⟨_, rfl, V, o, rfl, ok, io, rfl, V, o, rfl, ok, io, hQ⟩
end
def S_is_stable_outcome (C : Addr) : List Dat → (Dat → Prop) → Prop := fun ds P => ∃ (V : PL) (o : List (Option Nat)), ds = [pPl C V, outD o] ∧ V.Ok ∧ IsOut V o ∧ ∀ b : Bool, (b = true ↔ ∀ l r, ¬ Blk V o l r) → P (.bl b)
theorem len_is_stable_outcome {C : Addr} (ds : List Dat) (Q : Dat → Prop) (h : S_is_stable_outcome C ds Q) : ds.length = P_is_stable_outcome.length := by
  obtain ⟨V, r, rfl, _⟩ := h; rfl
section
variable {P : Program} {w : World} {K : PySem.W.Frag} {mg : Str → Option Value} {base : Heap}
theorem ok_is_stable_outcome (g : Fx K mg) : FnOk P w K mg base L2.CX0 4 g.f_is_stable_outcome g.fd_is_stable_outcome P_is_stable_outcome (spF 0 (S_is_stable_outcome g.C_Places)) := by
  refine okD g.F_is_stable_outcome sc_is_stable_outcome len_is_stable_outcome (fun cdv A outer s H E hr => ?_)
  have nd := (sc_is_stable_outcome).nd
  refine ⟨_, SDs.cost (sds_cons (sd_drop (pd_call (ok_check_places g) (hr.mono (by decide)) (by rfl) g.g_check_places g.F_check_places.kp (b_check_places g) (pad_cons (pd_var (pv 0)) pad_nil))) (sds_cons (sd_ret (pd_and (pd_call (ok_is_outcome g) (hr.mono (by decide)) (by rfl) g.g_is_outcome g.F_is_outcome.kp (b_is_outcome g) (pad_cons (pd_var (pv 0)) (pad_cons (pd_var (pv 1)) pad_nil))) (pd_one (pd_cmp (op_eqD (ru0 hr)) od_eq ((pd_call (ok_blocks_in g) (hr.mono (by decide)) (by rfl) g.g_blocks_in g.F_blocks_in.kp (b_blocks_in g) (pad_cons (pd_var (pv 0)) (pad_cons (pd_var (pv 1)) pad_nil)))).toSh ((pd_lst pad_nil)).toSh (nomark _))))) sds_nil)) (by decide), fun ds Q h => ?_⟩
  obtain ⟨V, o, rfl, ok, io, hQ⟩ := h
  simp
  refine ⟨_, rfl, V, o, rfl, ok, io, .inr ⟨rfl, V, o, rfl, ok, io, fun bs hbs => ⟨?_, ?_⟩⟩⟩
  · rw [pl_lst20]
    simp [pairD]
  · rw [eqD_lnil]
    refine hQ _ ?_
    rw [decide_eq_true_eq, List.map_eq_nil_iff]
    exact hbs
end
def hrow (h : List (List Nat)) (r : Nat) : List Nat := row h r
def heldD (h : List (List Nat)) : Dat := .lst (h.map fun x => .lst (x.map nD))
def oo_Iv (C : Addr) (V : PL) (h : List (List Nat)) (i : Nat) (ε : Ev) : Prop := ∃ (f : List (Option Nat)) (x3 x4 x5 : Sl), ε = [Sl.val (Dat.obj C (fsP V)), Sl.val (heldD h), Sl.own (.lst (f.map oD)), x3, x4, x5] ∧ f.length = V.lefts.length ∧ ∀ l r, oat f l = some r ↔ r < i ∧ l ∈ row h r
def oo_Iw (C : Addr) (V : PL) (h : List (List Nat)) (i j : Nat) (ε : Ev) : Prop := ∃ (f : List (Option Nat)) (x5 : Sl), ε = [Sl.val (Dat.obj C (fsP V)), Sl.val (heldD h), Sl.own (.lst (f.map oD)), Sl.val (nD i), Sl.val (.lst ((row h i).map nD)), x5] ∧ f.length = V.lefts.length ∧
  ∀ l r, oat f l = some r ↔ (r < i ∧ l ∈ row h r) ∨ (r = i ∧ l ∈ (row h i).take j)
theorem row_out {ls : List (List Nat)} {r : Nat} (h : ls.length ≤ r) : row ls r = [] := by simp [row, h]
theorem oat_set_same {f : List (Option Nat)} {a : Nat} {v : Option Nat} (h : a < f.length) : oat (f.set a v) a = v := by simp [oat, h]
theorem oat_set_ne {f : List (Option Nat)} {a b : Nat} {v : Option Nat} (h : b ≠ a) : oat (f.set a v) b = oat f b := by simp [oat, List.getElem?_set_ne (Ne.symm h)]
theorem ixN_nat {n i : Nat} (h : i < n) : ixN n (i : Int) = some i := by
  unfold ixN
  rw [if_pos (by omega), if_pos (by omega)]
  simp
theorem map_held_get {h : List (List Nat)} {i : Nat} {d : Dat} (e : (h.map fun x => Dat.lst (x.map nD))[i]? = some d) : i < h.length ∧ d = .lst ((row h i).map nD) := by
  rw [List.getElem?_map] at e
  cases q : h[i]? with
  | none => rw [q] at e; cases e
  | some r =>
    rw [q] at e
    cases e
    obtain ⟨h1, h2⟩ := List.getElem?_eq_some_iff.mp q
    refine ⟨h1, ?_⟩
    unfold row
    rw [List.getD_eq_getElem?_getD, q]
    rfl
def S_outcome_of (C : Addr) : List Dat → (Dat → Prop) → Prop := fun ds P => ∃ (V : PL) (h : List (List Nat)), ds = [pPl C V, heldD h] ∧ V.Ok ∧ h.length ≤ 20 ∧ (∀ r x, x ∈ row h r → x < V.lefts.length) ∧ (∀ r, (row h r).length ≤ 20) ∧ (∀ r s x, x ∈ row h r → x ∈ row h s → r = s) ∧
  ∀ o : List (Option Nat), o.length = V.lefts.length → (∀ l r, oat o l = some r ↔ l ∈ row h r) → P (outD o)
theorem len_outcome_of {C : Addr} (ds : List Dat) (Q : Dat → Prop) (h : S_outcome_of C ds Q) : ds.length = P_outcome_of.length := by
  obtain ⟨V, r, rfl, _⟩ := h; rfl
section
variable {P : Program} {w : World} {K : PySem.W.Frag} {mg : Str → Option Value} {base : Heap}
theorem ok_outcome_of (g : Fx K mg) : FnOk P w K mg base L2.CX0 1 g.f_outcome_of g.fd_outcome_of P_outcome_of (spF 0 (S_outcome_of g.C_Places)) := by
  refine okD g.F_outcome_of sc_outcome_of len_outcome_of (fun cdv A outer s H E hr => ?_)
  have nd := (sc_outcome_of).nd
  refine ⟨_, SDs.cost (sds_cons (sd_asgO (i := 2) (pd_op op_rep od_repL ((pd_lst (pad_cons pd_non pad_nil))).toSh ((pd_callB call_lenA cd_len (by rfl) g.b_len boot_len (phd_cons ((pd_fld g.cl_Places g.na_Places_lefts (pd_var (pv 0)))).toSh phd_nil))).toSh) nd rfl (.inl rfl)) (sds_cons (sd_for 1024 PassesOwn.never rfl (pid_enum (by rfl) g.b_enumerate (pad_cons (pd_var (pv 1)) pad_nil)) (pgd_tup (n := 2) rfl (pgsd_cons (pgd_name (i := 3) nd rfl (.inl rfl)) (pgsd_cons (pgd_name (i := 4) nd rfl (.inl rfl)) pgsd_nil))) (sds_cons (sd_for 1024 PassesOwn.never rfl (pid_list (pd_var (pv 4))) (pgd_name (i := 5) nd rfl (.inl rfl)) (sds_cons (sd_setL (pv 2) (pd_var (pv 5)) (pd_var (pv 3))) sds_nil)) sds_nil)) (sds_cons (sd_ret (pd_callTy call_tuple_ofF cd_tup (by rfl) g.b_tuple boot_tuple (phd_cons (pd_varS (pv 2)) phd_nil))) sds_nil))) (by decide), fun ds Q h => ?_⟩
  obtain ⟨V, h, rfl, ok, hl, hx, hr20, hd, hQ⟩ := h
  have hn := ok.sd.1.2.1
  simp [pPl]
  refine ⟨by omega, by omega, ?_⟩
  refine for_en (ds := h.map fun x => .lst (x.map nD)) (d := heldD h) (fun P h => ⟨_, rfl, h⟩) (.inl rfl) (by simp; omega) (oo_Iv g.C_Places V h)
    ⟨List.replicate V.lefts.length none, .off, .off, .off, by simp [oD], by simp, fun l r => by simp [oat, List.getElem?_replicate]; split <;> simp⟩ (fun i d ε hd' ⟨f, x3, x4, x5, hε, hfl, hf⟩ => ?_) (fun ε ⟨f, x3, x4, x5, hε, hfl, hf⟩ => ?_)
  · obtain ⟨hi, rfl⟩ := map_held_get hd'
    subst hε
    simp
    refine for_lst (ds := (row h i).map nD) (fun P h => ⟨_, rfl, h⟩) (by have := hr20 i; simp; omega) (oo_Iw g.C_Places V h i) ⟨f, x5, rfl, hfl, fun l r => by simp [hf l r]⟩ (fun j d ε hd2 ⟨f, x5, hε, hfl, hf⟩ => ?_) (fun ε ⟨f, x5, hε, hfl, hf⟩ => ?_)
    · obtain ⟨hj, hj2, rfl⟩ := map_nD_get hd2
      subst hε
      generalize at0 (row h i) j = x at *
      have hxr : x ∈ row h i := List.mem_of_getElem? hj2
      have hxl := hx i x hxr
      have htake : (row h i).take (j + 1) = (row h i).take j ++ [x] := by rw [List.take_add_one, hj2]; rfl
      simp
      refine ⟨x, ixN_nat (by omega), f.set x (some i), Sl.val (nD x), by rw [List.map_set]; rfl, by simpa using hfl, fun l r => ?_⟩
      by_cases e : l = x
      · subst e
        rw [oat_set_same (by omega), htake]
        constructor
        · intro q
          cases q
          exact .inr ⟨rfl, by simp⟩
        · rintro (⟨h1, h2⟩ | ⟨h1, h2⟩)
          · have := hd _ _ _ h2 hxr
            omega
          · rw [h1]
      · rw [oat_set_ne e, hf l r, htake]
        constructor
        · rintro (q | ⟨h1, h2⟩)
          · exact .inl q
          · exact .inr ⟨h1, List.mem_append_left _ h2⟩
        · rintro (q | ⟨h1, h2⟩)
          · exact .inl q
          · rcases List.mem_append.mp h2 with h2 | h2
            · exact .inr ⟨h1, h2⟩
            · exact (e (List.mem_singleton.mp h2)).elim
    · subst hε
      rw [List.length_map, List.take_length] at hf
      refine ⟨f, _, _, x5, rfl, hfl, fun l r => (hf l r).trans ⟨?_, fun ⟨h1, h2⟩ => ?_⟩⟩
      · rintro (⟨h1, h2⟩ | ⟨h1, h2⟩)
        · exact ⟨by omega, h2⟩
        · subst h1; exact ⟨by omega, h2⟩
      · by_cases e : r = i
        · subst e; exact .inr ⟨rfl, h2⟩
        · exact .inl ⟨by omega, h2⟩
  · subst hε
    simp
    rw [List.length_map] at hf
    refine hQ f hfl fun l r => (hf l r).trans ⟨fun h => h.2, fun h2 => ⟨?_, h2⟩⟩
    rcases Nat.lt_or_ge r h.length with q | q
    · exact q
    · rw [row_out q] at h2; simp at h2
end
end K90
set_option maxRecDepth 100000
set_option maxHeartbeats 2000000
/-! M2: asking down the rankings, plain. -/
namespace K90
open PySem PySem.Spec PyProof.Rows L2 RZ DL M90
def setOf (L : List Nat) : Nat → Bool := fun x => decide (x ∈ L)
@[simp] theorem setOf_iff {L : List Nat} {x : Nat} : setOf L x = true ↔ x ∈ L := by simp [setOf]
/-! ### whom a right takes -/
section
variable {V : PL} {r : Nat} {A B : Nat → Bool} {l : Nat}
theorem gp4 (ok : V.Ok) (hr : r < V.rights.length) : ∀ x ∈ row V.rights r, at0 V.groups x < 4 := fun x hx => by
  have := (ok.sd.2.1.2.2 _ (row_mem hr)).2.1 x hx
  exact ok.gr.2 _ (at0_mem (by rw [ok.gr.1]; exact this))
theorem Ch_in (h : l ∈ ChL V r A) : l ∈ row V.rights r ∧ A l = true := grd_sub h
theorem Ch_sub (ok : V.Ok) (hr : r < V.rights.length) (hAB : ∀ x, A x = true → B x = true) (h : l ∈ ChL V r B) (ha : A l = true) : l ∈ ChL V r A :=
  (grd_mono (gp4 ok hr) hAB (fun _ => Nat.le_refl _) rfl).1 l h ha
theorem Ch_irc (hAB : ∀ x, A x = true → B x = true) (h : ∀ x, x ∈ ChL V r B → A x = true) : ChL V r A = ChL V r B := grd_irc hAB h
theorem Ch_lad (ok : V.Ok) (hr : r < V.rights.length) (hAB : ∀ x, A x = true → B x = true) : (ChL V r A).length ≤ (ChL V r B).length := by
  have := (grd_mono (gp4 ok hr) hAB (lA := at0 (row V.limits r)) (lB := at0 (row V.limits r)) (fun _ => Nat.le_refl _) (sA := at0 V.seats r) (sB := at0 V.seats r) rfl).2
  unfold ChL
  omega
theorem Ch_nd (ok : V.Ok) (hr : r < V.rights.length) : (ChL V r A).Nodup := grd_nodup (ok.sd.2.1.2.2 _ (row_mem hr)).1
end
/-- what never can be refused -/
def Core (V : PL) (ν : Nat → Option Nat) : Prop := ∀ (r : Nat) (A : Nat → Bool) (l0 : Nat), r < V.rights.length → (∀ l, A l = true → l < V.lefts.length ∧ r ∈ row V.lefts l ∧ (ν l = some r ∨ abB (row V.lefts l) r (ν l) = true)) → A l0 = true → ν l0 = some r → l0 ∈ ChL V r A
theorem idx_at {xs : List Nat} (hn : xs.Nodup) {p r : Nat} (h : xs[p]? = some r) : ixo xs r = p := by
  obtain ⟨h1, h2⟩ := List.getElem?_eq_some_iff.mp h
  unfold ixo
  rw [← h2]
  exact hn.idxOf_getElem p h1
theorem get_ixo {xs : List Nat} {r : Nat} (h : r ∈ xs) : xs[ixo xs r]? = some r := by
  have hl : xs.idxOf r < xs.length := List.idxOf_lt_length_iff.mpr h
  unfold ixo
  rw [List.getElem?_eq_getElem hl, List.getElem_idxOf]
theorem ixo_out {xs : List Nat} {r : Nat} (h : r ∉ xs) : ixo xs r = xs.length := by
  unfold ixo
  exact List.idxOf_eq_length h
/-- who asks there has lost all that is above -/
theorem bet_of {xs : List Nat} (hn : xs.Nodup) {p r : Nat} (h : xs[p]? = some r) {o : Option Nat} (hd : ∀ k s, k < p → xs[k]? = some s → o ≠ some s) : o = some r ∨ abB xs r o = true := by
  cases o with
  | none => exact .inr rfl
  | some s =>
    by_cases e : s = r
    · subst e; exact .inl rfl
    · right
      show decide (ixo xs r < ixo xs s) = true
      rw [decide_eq_true_eq, idx_at hn h]
      by_cases hs : s ∈ xs
      · have h1 := get_ixo hs
        rcases Nat.lt_trichotomy (ixo xs s) p with q | q | q
        · exact (hd _ _ q h1 rfl).elim
        · rw [q, h] at h1
          cases h1
          exact (e rfl).elim
        · exact q
      · rw [ixo_out hs]
        exact (List.getElem?_eq_some_iff.mp h).1
structure DAI (V : PL) (at' : Nat → Nat) (held : Nat → List Nat) (W : List Nat) : Prop where
  wnd : W.Nodup
  wlt : ∀ x ∈ W, x < V.lefts.length
  atl : ∀ x, at' x ≤ (row V.lefts x).length
  hat : ∀ r x, x ∈ held r → x < V.lefts.length ∧ x ∉ W ∧ 0 < at' x ∧ (row V.lefts x)[at' x - 1]? = some r
  all : ∀ x, x < V.lefts.length → x ∉ W → at' x < (row V.lefts x).length → ∃ r, x ∈ held r
  fix : ∀ r, r < V.rights.length → ∀ x, x ∈ held r ↔ x ∈ ChL V r (setOf (held r))
  hnd : ∀ r, (held r).Nodup
  dead : ∀ x k r, x < V.lefts.length → k < at' x → (row V.lefts x)[k]? = some r → x ∉ held r → x ∉ ChL V r (fun y => decide (y ∈ held r ∨ y = x)) ∧ ∀ ν, Core V ν → ν x ≠ some r
theorem Ch_nil {V : PL} {r : Nat} {A : Nat → Bool} (h : ∀ x, A x = false) : ChL V r A = [] := by
  apply List.eq_nil_iff_forall_not_mem.mpr
  intro x hx
  have := (Ch_in hx).2
  rw [h x] at this
  cases this
theorem DAI.init (V : PL) : DAI V (fun _ => 0) (fun _ => []) (List.range V.lefts.length) where
  wnd := List.nodup_range
  wlt := fun x hx => List.mem_range.mp hx
  atl := fun x => Nat.zero_le _
  hat := fun r x hx => by simp at hx
  all := fun x h1 h2 => (h2 (List.mem_range.mpr h1)).elim
  fix := fun r hr x => by
    rw [Ch_nil (by intro x; simp [setOf])]
  hnd := fun r => .nil
  dead := fun x k r _ hk => by omega
theorem nodup_last {W : List Nat} {l : Nat} (h : (W ++ [l]).Nodup) : W.Nodup ∧ l ∉ W := by
  rw [List.nodup_append] at h
  exact ⟨h.1, fun hl => h.2.2 l hl l (by simp) rfl⟩
/-- one who has asked all -/
theorem DAI.drop {V : PL} {at' : Nat → Nat} {held : Nat → List Nat} {W : List Nat} {l : Nat} (d : DAI V at' held (W ++ [l])) (h : at' l = (row V.lefts l).length) : DAI V at' held W :=
  { d with
    wnd := (nodup_last d.wnd).1
    wlt := fun x hx => d.wlt x (List.mem_append_left _ hx)
    hat := fun r x hx => by
      obtain ⟨h1, h2, h3⟩ := d.hat r x hx
      exact ⟨h1, fun q => h2 (List.mem_append_left _ q), h3⟩
    all := fun x h1 h2 h3 => by
      refine d.all x h1 (fun q => ?_) h3
      rcases List.mem_append.mp q with q | q
      · exact h2 q
      · have := List.mem_singleton.mp q
        subst this
        omega }
/-- one asks the next -/
theorem DAI.ask {V : PL} (ok : V.Ok) {at' : Nat → Nat} {held : Nat → List Nat} {W : List Nat} {l r : Nat} (d : DAI V at' held (W ++ [l])) (hr0 : (row V.lefts l)[at' l]? = some r) :
    DAI V (fun x => if x = l then at' l + 1 else at' x) (fun s => if s = r then takenL V r (setOf (held r ++ [l])) else held s) (W ++ (held r ++ [l]).filter fun x => !decide (x ∈ takenL V r (setOf (held r ++ [l])))) := by
  have hll : l < V.lefts.length := d.wlt l (by simp)
  have hrow := ok.sd.1.2.2 _ (row_mem hll)
  have hr : r < V.rights.length := ok.sd.2.2 _ (row_mem hll) r (List.mem_of_getElem? hr0)
  have hatl : at' l < (row V.lefts l).length := (List.getElem?_eq_some_iff.mp hr0).1
  obtain ⟨wn, wl⟩ := nodup_last d.wnd
  have hT : ∀ x, x ∈ takenL V r (setOf (held r ++ [l])) ↔ x ∈ ChL V r (setOf (held r ++ [l])) := fun x => mem_takenL ok hr
  have hTB : ∀ x, x ∈ takenL V r (setOf (held r ++ [l])) → x ∈ held r ++ [l] := fun x hx => by simpa using (Ch_in ((hT x).mp hx)).2
  have lh : ∀ s, l ∉ held s := fun s hs => (d.hat s l hs).2.1 (by simp)
  -- the others stay
  have rne : ∀ x s, x ∈ held s → x ≠ l := fun x s hx e => lh s (e ▸ hx)
  have only : ∀ x s t, x ∈ held s → x ∈ held t → s = t := fun x s t h1 h2 => by
    have a1 := (d.hat s x h1).2.2.2
    have a2 := (d.hat t x h2).2.2.2
    rw [a1] at a2
    cases a2
    rfl
  have bpos : ∀ x, x ∈ held r ++ [l] → x < V.lefts.length ∧ ∃ p, (row V.lefts x)[p]? = some r ∧ p < (if x = l then at' l + 1 else at' x) ∧ p + 1 = (if x = l then at' l + 1 else at' x) := fun x hx => by
    rcases List.mem_append.mp hx with hx | hx
    · obtain ⟨h1, h2, h3, h4⟩ := d.hat r x hx
      refine ⟨h1, at' x - 1, h4, ?_, ?_⟩
      · rw [if_neg (rne x r hx)]; omega
      · rw [if_neg (rne x r hx)]; omega
    · have := List.mem_singleton.mp hx
      subst this
      exact ⟨hll, at' x, hr0, by rw [if_pos rfl]; omega, by rw [if_pos rfl]⟩
  have lost : ∀ ν, Core V ν → ∀ x, x ∈ held r ++ [l] → r ∈ row V.lefts x ∧ (ν x = some r ∨ abB (row V.lefts x) r (ν x) = true) := fun ν hν x hx => by
    obtain ⟨hx1, p, hp, hp1, hp2⟩ := bpos x hx
    refine ⟨List.mem_of_getElem? hp, bet_of (ok.sd.1.2.2 _ (row_mem hx1)).1 hp fun k s hk hs => ?_⟩
    refine (d.dead x k s hx1 ?_ hs ?_).2 ν hν
    · by_cases e : x = l
      · subst e; rw [if_pos rfl] at hp2; omega
      · rw [if_neg e] at hp2; omega
    · intro hxs
      rcases List.mem_append.mp hx with hx | hx
      · have := only x s r hxs hx
        subst this
        have n := (ok.sd.1.2.2 _ (row_mem hx1)).1
        have i1 := idx_at n hs
        have i2 := idx_at n hp
        omega
      · have := List.mem_singleton.mp hx
        subst this
        exact lh s hxs
  refine ⟨?_, ?_, ?_, ?_, ?_, ?_, ?_, ?_⟩
  · refine List.nodup_append.mpr ⟨wn, List.Pairwise.filter _ ?_, fun a ha b hb e => ?_⟩
    · refine List.nodup_append.mpr ⟨d.hnd r, by simp, fun a ha b hb e => ?_⟩
      have := List.mem_singleton.mp hb
      subst e this
      exact lh r ha
    · subst e
      have hb := (List.mem_filter.mp hb).1
      rcases List.mem_append.mp hb with hb | hb
      · exact (d.hat r a hb).2.1 (List.mem_append_left _ ha)
      · have := List.mem_singleton.mp hb
        subst this
        exact wl ha
  · intro x hx
    rcases List.mem_append.mp hx with hx | hx
    · exact d.wlt x (List.mem_append_left _ hx)
    · exact (bpos x (List.mem_filter.mp hx).1).1
  · intro x
    show (if x = l then at' l + 1 else at' x) ≤ _
    split
    · rename_i e; subst e; omega
    · exact d.atl x
  · intro s x hx
    have hx : x ∈ if s = r then takenL V r (setOf (held r ++ [l])) else held s := hx
    show x < V.lefts.length ∧ x ∉ _ ∧ 0 < (if x = l then at' l + 1 else at' x) ∧ (row V.lefts x)[(if x = l then at' l + 1 else at' x) - 1]? = some s
    by_cases e : s = r
    · subst e
      rw [if_pos rfl] at hx
      have hb := hTB x hx
      obtain ⟨h1, p, hp, hp1, hp2⟩ := bpos x hb
      refine ⟨h1, fun q => ?_, by omega, by rw [← hp2]; exact hp⟩
      rcases List.mem_append.mp q with q1 | q1
      · rcases List.mem_append.mp hb with hb1 | hb1
        · exact (d.hat s x hb1).2.1 (List.mem_append_left _ q1)
        · have e9 := List.mem_singleton.mp hb1
          rw [e9] at q1
          exact wl q1
      · have := (List.mem_filter.mp q1).2
        simp at this
        exact this hx
    · rw [if_neg e] at hx
      obtain ⟨h1, h2, h3, h4⟩ := d.hat s x hx
      rw [if_neg (rne x s hx)]
      refine ⟨h1, fun q => ?_, h3, h4⟩
      rcases List.mem_append.mp q with q | q
      · exact h2 (List.mem_append_left _ q)
      · have hb := (List.mem_filter.mp q).1
        rcases List.mem_append.mp hb with hb | hb
        · exact e (only x s r hx hb)
        · exact rne x s hx (List.mem_singleton.mp hb)
  · intro x h1 h2 h3
    have h3 : (if x = l then at' l + 1 else at' x) < (row V.lefts x).length := h3
    show ∃ s, x ∈ if s = r then takenL V r (setOf (held r ++ [l])) else held s
    by_cases hb : x ∈ held r ++ [l]
    · refine ⟨r, ?_⟩
      rw [if_pos rfl]
      apply Classical.byContradiction
      intro hn
      exact h2 (List.mem_append_right _ (List.mem_filter.mpr ⟨hb, by simp [hn]⟩))
    · have hxl : x ≠ l := fun e => hb (by simp [e])
      rw [if_neg hxl] at h3
      obtain ⟨s, hs⟩ := d.all x h1 (fun q => by
        rcases List.mem_append.mp q with q | q
        · exact h2 (List.mem_append_left _ q)
        · exact hxl (List.mem_singleton.mp q)) h3
      refine ⟨s, ?_⟩
      have : s ≠ r := fun e => hb (List.mem_append_left _ (e ▸ hs))
      rw [if_neg this]
      exact hs
  · intro s hs x
    show x ∈ (if s = r then takenL V r (setOf (held r ++ [l])) else held s) ↔ x ∈ ChL V s (setOf (if s = r then takenL V r (setOf (held r ++ [l])) else held s))
    by_cases e : s = r
    · subst e
      rw [if_pos rfl, hT]
      have : ChL V s (setOf (takenL V s (setOf (held s ++ [l])))) = ChL V s (setOf (held s ++ [l])) :=
        Ch_irc (fun x hx => by simpa using hTB x (by simpa using hx)) fun x hx => by simpa using (hT x).mpr hx
      rw [this]
    · rw [if_neg e]
      exact d.fix s hs x
  · intro s
    show (if s = r then takenL V r (setOf (held r ++ [l])) else held s).Nodup
    split
    · exact List.Pairwise.filter _ List.nodup_range
    · exact d.hnd s
  · intro x k s h1 h2 h3 h4
    replace h2 : k < (if x = l then at' l + 1 else at' x) := h2
    replace h4 : x ∉ if s = r then takenL V r (setOf (held r ++ [l])) else held s := h4
    show x ∉ ChL V s (fun y => decide (y ∈ (if s = r then takenL V r (setOf (held r ++ [l])) else held s) ∨ y = x)) ∧ _
    by_cases e : s = r
    · subst e
      rw [if_pos rfl] at h4 ⊢
      by_cases hb : x ∈ held s ++ [l]
      · have hn : x ∉ ChL V s (setOf (held s ++ [l])) := fun q => h4 ((hT x).mpr q)
        refine ⟨?_, fun ν hν q => ?_⟩
        · have : ChL V s (fun y => decide (y ∈ takenL V s (setOf (held s ++ [l])) ∨ y = x)) = ChL V s (setOf (held s ++ [l])) := Ch_irc (fun y hy => by
            have hy : y ∈ takenL V s (setOf (held s ++ [l])) ∨ y = x := by simpa using hy
            rcases hy with hy | hy
            · simpa using hTB y hy
            · subst hy; simpa using hb) fun y hy => by simp [(hT y).mpr hy]
          rw [this]
          exact hn
        · refine hn (hν s (setOf (held s ++ [l])) x hr (fun y hy => ?_) (by simpa using hb) q)
          have hy : y ∈ held s ++ [l] := by simpa using hy
          exact ⟨(bpos y hy).1, lost ν hν y hy⟩
      · have hxl : x ≠ l := fun e => hb (by simp [e])
        rw [if_neg hxl] at h2
        have hxh : x ∉ held s := fun q => hb (List.mem_append_left _ q)
        obtain ⟨d1, d2⟩ := d.dead x k s h1 h2 h3 hxh
        refine ⟨fun q => ?_, d2⟩
        -- U: all together
        have hU : x ∉ ChL V s (fun y => decide (y ∈ held s ++ [l] ∨ y = x)) := fun q2 => d1 (Ch_sub ok hr (fun y hy => by
          have hy : y ∈ held s ∨ y = x := by simpa using hy
          rcases hy with hy | hy
          · simp [hy]
          · simp [hy]) q2 (by simp))
        have e1 : ChL V s (setOf (held s ++ [l])) = ChL V s (fun y => decide (y ∈ held s ++ [l] ∨ y = x)) := Ch_irc (fun y hy => by
          have hy : y ∈ held s ++ [l] := by simpa using hy
          simp [hy]) fun y hy => by
          have h5 := (Ch_in hy).2
          have h5 : y ∈ held s ++ [l] ∨ y = x := by simpa using h5
          rcases h5 with h5 | h5
          · simpa using h5
          · subst h5; exact (hU hy).elim
        have e2 : ChL V s (fun y => decide (y ∈ takenL V s (setOf (held s ++ [l])) ∨ y = x)) = ChL V s (fun y => decide (y ∈ held s ++ [l] ∨ y = x)) := Ch_irc (fun y hy => by
          have hy : y ∈ takenL V s (setOf (held s ++ [l])) ∨ y = x := by simpa using hy
          rcases hy with hy | hy
          · have := hTB y hy
            simp [this]
          · simp [hy]) fun y hy => by
          rw [← e1] at hy
          simp [(hT y).mpr hy]
        rw [e2] at q
        exact hU q
    · rw [if_neg e] at h4 ⊢
      by_cases hxl : x = l
      · subst hxl
        rw [if_pos rfl] at h2
        have : k ≠ at' x := fun q => by
          rw [q, hr0] at h3
          cases h3
          exact e rfl
        exact d.dead x k s h1 (by omega) h3 (by assumption)
      · rw [if_neg hxl] at h2
        exact d.dead x k s h1 h2 h3 h4
end K90
set_option maxRecDepth 100000
set_option maxHeartbeats 2000000
/-! M3: stable outcomes, plain. -/
namespace K90
open PySem PySem.Spec PyProof.Rows L2 RZ DL M90
theorem mem_memb {o : List (Option Nat)} {r x : Nat} : x ∈ memb o r ↔ oat o x = some r := by
  unfold memb
  simp only [List.mem_filter, List.mem_range, decide_eq_true_eq]
  refine ⟨fun h => h.2, fun h => ⟨?_, h⟩⟩
  rcases Nat.lt_or_ge x o.length with q | q
  · exact q
  · simp [oat, q] at h
/-- a stable outcome, in short -/
structure StabP (V : PL) (ν : Nat → Option Nat) : Prop where
  ir : ∀ l r, ν l = some r → l < V.lefts.length ∧ r ∈ row V.lefts l ∧ l ∈ ChL V r (fun y => decide (ν y = some r))
  nb : ∀ l r, l < V.lefts.length → r ∈ row V.lefts l → abB (row V.lefts l) r (ν l) = true → l ∉ ChL V r (fun y => decide (ν y = some r ∨ y = l))
theorem row_lt {V : PL} (ok : V.Ok) {l r : Nat} (h : r ∈ row V.lefts l) : l < V.lefts.length ∧ r < V.rights.length := by
  have hl : l < V.lefts.length := by
    rcases Nat.lt_or_ge l V.lefts.length with q | q
    · exact q
    · rw [row_out q] at h; simp at h
  exact ⟨hl, ok.sd.2.2 _ (row_mem hl) r h⟩
theorem core_of {V : PL} (ok : V.Ok) {ν : Nat → Option Nat} (st : StabP V ν) : Core V ν := fun r A l0 hr hA h0 hν => by
  apply Classical.byContradiction
  intro hn
  have hU : l0 ∉ ChL V r (fun y => A y || decide (ν y = some r)) := fun q => hn (Ch_sub ok hr (fun x hx => by simp [hx]) q h0)
  by_cases hall : ∀ x, x ∈ ChL V r (fun y => A y || decide (ν y = some r)) → ν x = some r
  · have e : ChL V r (fun y => decide (ν y = some r)) = ChL V r (fun y => A y || decide (ν y = some r)) := Ch_irc (fun x hx => by
      have hx : ν x = some r := by simpa using hx
      simp [hx]) fun x hx => by simpa using hall x hx
    exact hU (e ▸ (st.ir l0 r hν).2.2)
  · have ⟨x, hx⟩ := Classical.not_forall.mp hall
    rw [Classical.not_imp] at hx
    obtain ⟨hx1, hx2⟩ := hx
    have hxA : A x = true := by
      have := (Ch_in hx1).2
      simpa [hx2] using this
    obtain ⟨a1, a2, a3⟩ := hA x hxA
    rcases a3 with a3 | a3
    · exact hx2 a3
    · refine st.nb x r a1 a2 a3 (Ch_sub ok hr (fun y hy => ?_) hx1 (by simp))
      have hy : ν y = some r ∨ y = x := by simpa using hy
      rcases hy with hy | hy
      · simp [hy]
      · subst hy; simp [hxA]
theorem stab_of {V : PL} (ok : V.Ok) {o : List (Option Nat)} (io : IsOut V o) (nb : ∀ l r, ¬ Blk V o l r) : StabP V (oat o) where
  ir := fun l r h => by
    have hl : l < o.length := by
      rcases Nat.lt_or_ge l o.length with q | q
      · exact q
      · simp [oat, q] at h
    obtain ⟨h1, h2⟩ := io.fit l r h (by rw [← io.len]; exact hl)
    refine ⟨by rw [← io.len]; exact hl, (fitB_iff.mp h2).1, ?_⟩
    have h3 : l ∈ takenL V r (fun l => decide (l ∈ memb o r)) := by rw [io.tak r h1]; exact mem_memb.mpr h
    have h4 := (mem_takenL ok h1).mp h3
    have e : (fun l => decide (l ∈ memb o r)) = fun y => decide (oat o y = some r) := by
      funext y
      exact decide_eq_decide.mpr mem_memb
    rw [e] at h4
    exact h4
  nb := fun l r h1 h2 h3 h4 => by
    have e : (fun y => decide (y ∈ memb o r ++ [l])) = fun y => decide (oat o y = some r ∨ y = l) := by
      funext y
      apply decide_eq_decide.mpr
      rw [List.mem_append, mem_memb, List.mem_singleton]
    refine nb l r ⟨h1, h2, fitB_iff.mpr ⟨h2, (Ch_in h4).1⟩, fun q => ?_, h3, by rw [e]; exact h4⟩
    rw [q] at h3
    simp [abB] at h3
/-- best for all lefts among those that are never refused -/
def BestP (V : PL) (o : List (Option Nat)) : Prop := ∀ ν, Core V ν → ∀ l s, l < V.lefts.length → ν l = some s → s ∈ row V.lefts l → ∃ r, oat o l = some r ∧ ixo (row V.lefts l) r ≤ ixo (row V.lefts l) s
theorem DAI.done {V : PL} (ok : V.Ok) {at' : Nat → Nat} {held : Nat → List Nat} (d : DAI V at' held []) {o : List (Option Nat)} (ho : o.length = V.lefts.length) (hoh : ∀ l r, oat o l = some r ↔ l ∈ held r) :
    IsOut V o ∧ (∀ l r, ¬ Blk V o l r) ∧ BestP V o := by
  have hm : ∀ r, (fun y => decide (y ∈ memb o r)) = setOf (held r) := fun r => by
    funext y
    exact decide_eq_decide.mpr (mem_memb.trans (hoh y r))
  refine ⟨⟨ho, fun l r h hl => ?_, fun r hr => ?_⟩, fun l r hB => ?_, fun ν hν l s hl hs hrow => ?_⟩
  · have h1 := (hoh l r).mp h
    obtain ⟨_, _, _, h4⟩ := d.hat r l h1
    have hrow := List.mem_of_getElem? h4
    have hr := (row_lt ok hrow).2
    exact ⟨hr, fitB_iff.mpr ⟨hrow, (Ch_in ((d.fix r hr l).mp h1)).1⟩⟩
  · rw [hm]
    unfold takenL memb asc
    rw [ho]
    apply List.filter_congr
    intro x hx
    apply decide_eq_decide.mpr
    rw [hoh]
    exact (d.fix r hr x).symm
  · obtain ⟨h1, h2, h3, h4, h5, h6⟩ := hB
    have hrow := ok.sd.1.2.2 _ (row_mem h1)
    have hk := get_ixo h2
    have hkat : ixo (row V.lefts l) r < at' l := by
      cases e : oat o l with
      | none =>
        have hne : ¬ at' l < (row V.lefts l).length := fun q => by
          obtain ⟨s, hs⟩ := d.all l h1 (by simp) q
          have := (hoh l s).mpr hs
          rw [e] at this
          cases this
        have := (List.getElem?_eq_some_iff.mp hk).1
        omega
      | some s =>
        rw [e] at h5
        have h5 : decide (ixo (row V.lefts l) r < ixo (row V.lefts l) s) = true := h5
        rw [decide_eq_true_eq] at h5
        obtain ⟨_, _, p1, p2⟩ := d.hat s l ((hoh l s).mp e)
        rw [idx_at hrow.1 p2] at h5
        omega
    refine (d.dead l _ r h1 hkat hk fun q => h4 ((hoh l r).mpr q)).1 ?_
    have e : (fun y => decide (y ∈ memb o r ++ [l])) = fun y => decide (y ∈ held r ∨ y = l) := by
      funext y
      apply decide_eq_decide.mpr
      rw [List.mem_append, mem_memb, hoh, List.mem_singleton]
    rw [← e]
    exact h6
  · have hnd := (ok.sd.1.2.2 _ (row_mem hl)).1
    have hk := get_ixo hrow
    have live : ixo (row V.lefts l) s < at' l → l ∈ held s := fun q => by
      apply Classical.byContradiction
      intro hn
      exact (d.dead l _ s hl q hk hn).2 ν hν hs
    cases e : oat o l with
    | none =>
      have hne : ¬ at' l < (row V.lefts l).length := fun q => by
        obtain ⟨t, ht⟩ := d.all l hl (by simp) q
        have := (hoh l t).mpr ht
        rw [e] at this
        cases this
      have h9 := (List.getElem?_eq_some_iff.mp hk).1
      have := (hoh l s).mpr (live (by omega))
      rw [e] at this
      cases this
    | some r =>
      refine ⟨r, rfl, ?_⟩
      obtain ⟨_, _, p1, p2⟩ := d.hat r l ((hoh l r).mp e)
      rw [idx_at hnd p2]
      rcases Nat.lt_or_ge (ixo (row V.lefts l) s) (at' l) with q | q
      · have := (hoh l s).mpr (live q)
        rw [e] at this
        cases this
        rw [idx_at hnd p2]
        exact Nat.le_refl _
      · omega
end K90
set_option maxRecDepth 100000
set_option maxHeartbeats 4000000
namespace K90
open PySem PySem.Spec PyProof.Rows L2 RZ DL
open C8 (call_isC pe_gc InsC)
open M90
def tot (V : PL) (ats : List Nat) : Nat := ((List.range V.lefts.length).map fun x => (row V.lefts x).length - at0 ats x).sum
theorem sum_set {f g : Nat → Nat} {n x : Nat} (hx : x < n) (h1 : f x = g x + 1) (h2 : ∀ y, y ≠ x → f y = g y) : ((List.range n).map f).sum = ((List.range n).map g).sum + 1 := by
  induction n with
  | zero => omega
  | succ n ih =>
    rw [List.range_succ, List.map_append, List.map_append, List.sum_append, List.sum_append]
    simp only [List.map_cons, List.map_nil, List.sum_cons, List.sum_nil]
    by_cases e : x = n
    · subst e
      have : (List.range x).map f = (List.range x).map g := List.map_congr_left fun y hy => h2 y (by have := List.mem_range.mp hy; omega)
      rw [this, h1]
      omega
    · have := ih (by omega)
      rw [this, h2 n (fun h => e h.symm)]
      omega
theorem sum_le {f : Nat → Nat} {n c : Nat} (h : ∀ x, x < n → f x ≤ c) : ((List.range n).map f).sum ≤ n * c := by
  induction n with
  | zero => simp
  | succ n ih =>
    rw [List.range_succ, List.map_append, List.sum_append]
    simp only [List.map_cons, List.map_nil, List.sum_cons, List.sum_nil]
    have := ih fun x hx => h x (by omega)
    have := h n (by omega)
    have e : (n + 1) * c = n * c + c := Nat.succ_mul _ _
    omega
theorem nodup_lt {W : List Nat} {n : Nat} (h : W.Nodup) (hl : ∀ x ∈ W, x < n) : W.length ≤ n := by
  have := List.Nodup.length_le_of_subset h (l₂ := List.range n) fun x hx => List.mem_range.mpr (hl x hx)
  simpa using this
theorem tot_set {V : PL} {ats : List Nat} {l : Nat} (hl : l < V.lefts.length) (hal : l < ats.length) (h : at0 ats l < (row V.lefts l).length) : tot V ats = tot V (ats.set l (at0 ats l + 1)) + 1 := by
  unfold tot
  refine sum_set hl ?_ fun y hy => ?_
  · show _ = (row V.lefts l).length - at0 (ats.set l (at0 ats l + 1)) l + 1
    rw [at0_set_same hal]
    omega
  · show _ = (row V.lefts y).length - at0 (ats.set l (at0 ats l + 1)) y
    rw [at0_set_ne hy]
theorem row_set_same {ls : List (List Nat)} {a : Nat} {v : List Nat} (h : a < ls.length) : row (ls.set a v) a = v := by simp [row, h]
theorem row_set_ne {ls : List (List Nat)} {a b : Nat} {v : List Nat} (h : b ≠ a) : row (ls.set a v) b = row ls b := by simp [row, List.getElem?_set_ne (Ne.symm h)]
theorem fIx_held {h : List (List Nat)} {a : Nat} {P : Dat → Prop} (hl : a < h.length) : fIx (heldD h) (nD a) P = P (.lst ((row h a).map nD)) := by
  have : atI (h.map fun x => Dat.lst (x.map nD)) ((a : Nat) : Int) = some (.lst ((row h a).map nD)) := by
    apply atI_nat
    simp [hl, row]
  show (∃ d, atI (h.map fun x => Dat.lst (x.map nD)) ((a : Nat) : Int) = some d ∧ P d) = _
  rw [this, ex1]
def bo_Iv (C : Addr) (V : PL) (m : Nat) (ε : Ev) : Prop := ∃ (hs : List (List Nat)) (ats W : List Nat) (x4 x5 x6 : Sl), ε = [Sl.val (Dat.obj C (fsP V)), Sl.own (heldD hs), Sl.own (.lst (ats.map nD)), Sl.own (.lst (W.map nD)), x4, x5, x6, Sl.off, Sl.off] ∧
  hs.length = V.rights.length ∧ ats.length = V.lefts.length ∧ DAI V (at0 ats) (row hs) W ∧ m = tot V ats * 21 + W.length
def S_best_of (C : Addr) : List Dat → (Dat → Prop) → Prop := fun ds P => ∃ (V : PL), ds = [pPl C V] ∧ V.Ok ∧ ∀ o, IsOut V o → (∀ l r, ¬ Blk V o l r) → BestP V o → P (outD o)
theorem len_best_of {C : Addr} (ds : List Dat) (Q : Dat → Prop) (h : S_best_of C ds Q) : ds.length = P_best_of.length := by
  obtain ⟨V, rfl, _⟩ := h; rfl
section
variable {P : Program} {w : World} {K : PySem.W.Frag} {mg : Str → Option Value} {base : Heap}
theorem ok_best_of (g : Fx K mg) : FnOk P w K mg base L2.CX0 2 g.f_best_of g.fd_best_of P_best_of (spF 0 (S_best_of g.C_Places)) := by
  refine okD g.F_best_of sc_best_of len_best_of (fun cdv A outer s H E hr => ?_)
  have nd := (sc_best_of).nd
  refine ⟨_, SDs.cost (sds_cons (sd_mul (xN := 0) (is := [1, 2]) (pmd_cons (m := .fr) (pd_lc 1024 rfl nd (pid_tup (pd_fld g.cl_Places g.na_Places_rights (pd_var (pv 0)))) (blkOk_by (own := [("_", 7)]) (by kernel_rfl)) (fun _ _ _ _ _ => (pgd_name (i := 7) nd rfl (by first | exact .inl rfl | exact .inr rfl))) (fun _ _ _ _ _ => ptsd_nil) (fun _ _ _ _ _ => ((pd_lst pad_nil)).frz)) (pmd_cons (m := .fr) (pd_op op_rep od_repL ((pd_lst (pad_cons pd_int pad_nil))).toSh ((pd_callB call_lenA cd_len (by rfl) g.b_len boot_len (phd_cons ((pd_fld g.cl_Places g.na_Places_lefts (pd_var (pv 0)))).toSh phd_nil))).toSh) pmd_nil)) rfl rfl rfl (pgs_cons (pg_name (i := 1) nd rfl (.inr rfl)) (pgs_cons (pg_name (i := 2) nd rfl (.inl rfl)) pgs_nil))) (sds_cons (sd_asgO (i := 3) (pd_lrange1 rfl (by rfl) g.b_list (by rfl) g.b_range (pd_callB call_lenA cd_len (by rfl) g.b_len boot_len (phd_cons ((pd_fld g.cl_Places g.na_Places_lefts (pd_var (pv 0)))).toSh phd_nil))) nd rfl (.inl rfl)) (sds_cons (sd_while 20000 PassesOwn.never (ptd_cmp (op_neD (ru0 hr)) od_ne (pd_varS (pv 3)) ((pd_lst pad_nil)).toSh (nomark _)) (sds_cons (sd_pop (pv 3) (i := 4) nd rfl (.inl rfl)) (sds_cons (sd_if (ptd_cmp (op_eqD (ru0 hr)) od_eq ((pd_ix (ix_all (ru1 hr)) od_ix (pd_varS (pv 2)) ((pd_var (pv 4))).toSh (fun _ _ => rfl))).toSh ((pd_callB call_lenA cd_len (by rfl) g.b_len boot_len (phd_cons ((pd_ix (ix_all (ru1 hr)) od_ix ((pd_fld g.cl_Places g.na_Places_lefts (pd_var (pv 0)))).toSh ((pd_var (pv 4))).toSh (fun _ _ => rfl))).toSh phd_nil))).toSh (nomark _)) (sds_cons sd_cont sds_nil) sds_nil) (sds_cons (sd_asg (i := 5) (pd_ix (ix_all (ru1 hr)) od_ix ((pd_ix (ix_all (ru1 hr)) od_ix ((pd_fld g.cl_Places g.na_Places_lefts (pd_var (pv 0)))).toSh ((pd_var (pv 4))).toSh (fun _ _ => rfl))).toSh ((pd_ix (ix_all (ru1 hr)) od_ix (pd_varS (pv 2)) ((pd_var (pv 4))).toSh (fun _ _ => rfl))).toSh (fun _ _ => rfl)) nd rfl (.inr rfl)) (sds_cons (sd_augL (pv 2) (pd_var (pv 4)) pd_int) (sds_cons (sd_asg (i := 6) ((pd_lst (pad_star ((pd_ix (ix_all (ru1 hr)) od_ix (pd_varS (pv 1)) ((pd_var (pv 5))).toSh (fun _ _ => rfl))).toSh (pad_cons (pd_var (pv 4)) pad_nil)))).frz nd rfl (.inl rfl)) (sds_cons (sd_setL (pv 1) (pd_var (pv 5)) (pd_call (ok_taken_of g) (hr.mono (by decide)) (by rfl) g.g_taken_of g.F_taken_of.kp (b_taken_of g) (pad_cons (pd_var (pv 0)) (pad_cons (pd_var (pv 5)) (pad_cons (pd_var (pv 6)) pad_nil))))) (sds_cons (sd_ext (pv 3) ((pd_lc 1024 rfl nd (pid_list (pd_var (pv 6))) (blkOk_by (own := [("one", 8)]) (by kernel_rfl)) (fun _ _ _ _ _ => (pgd_name (i := 8) nd rfl (by first | exact .inl rfl | exact .inr rfl))) (fun _ _ _ _ _ => (ptsd_one (ptd_cmp (op_notinA (ru hr)) od_notin ((pd_var (pv 8))).toSh ((pd_ix (ix_all (ru1 hr)) od_ix (pd_varS (pv 1)) ((pd_var (pv 5))).toSh (fun _ _ => rfl))).toSh (by with_unfolding_all rfl)))) (fun _ _ _ _ _ => (pd_var (pv 8))))).frz) sds_nil)))))))) (sds_cons (((sd_ret (pd_call (ok_outcome_of g) (hr.mono (by decide)) (by rfl) g.g_outcome_of g.F_outcome_of.kp (b_outcome_of g) (pad_cons (pd_var (pv 0)) (pad_cons (pd_var (pv 1)) pad_nil))))).frz 1) sds_nil)))) (by decide), fun ds Q h => ?_⟩
  obtain ⟨V, rfl, ok, hQ⟩ := h
  have hn := ok.sd.1.2.1
  have hm := ok.sd.2.1.2.1
  simp [pPl]
  refine lc_tup V.rights rk (fun _ => some (.lst [])) (fun P h => ⟨_, rfl, _, _, rfl, lkP_r, h⟩) (by omega) (fun a ha R hR => ?_) ?_
  · simp
    exact hR
  rw [fm_const]
  refine ⟨by omega, by omega, by omega, ?_⟩
  refine ⟨bo_Iv g.C_Places V, ⟨tot V (List.replicate V.lefts.length 0) * 21 + (List.range V.lefts.length).length, ?_, List.replicate V.rights.length [], List.replicate V.lefts.length 0, List.range V.lefts.length, .off, .off, .off, ?_, by simp, by simp, ?_, rfl⟩, fun m ε ⟨hs, ats, W, x4, x5, x6, hε, hl1, hl2, hD, hm2⟩ => ?_⟩
  · have : tot V (List.replicate V.lefts.length 0) ≤ V.lefts.length * 20 := sum_le fun x hx => by
      have := (ok.sd.1.2.2 _ (row_mem hx)).len
      omega
    have e2 : V.lefts.length * 20 ≤ 20 * 20 := Nat.mul_le_mul_right _ hn
    simp
    omega
  · simp [heldD, rng0, nD]
  · have e1 : at0 (List.replicate V.lefts.length 0) = fun _ => 0 := by
      funext x
      simp [at0, List.getElem?_replicate]
      split <;> rfl
    have e2 : row (List.replicate V.rights.length []) = fun _ => [] := by
      funext x
      simp [row, List.getElem?_replicate]
      split <;> rfl
    rw [e1, e2]
    exact DAI.init V
  · subst hε
    simp
    rw [eqD_lnil]
    rcases List.eq_nil_or_concat W with rfl | ⟨W', l, rfl⟩
    · refine .inl ⟨rfl, V, hs, rfl, ok, by omega, fun r x hx => (hD.hat r x hx).1, fun r => ?_, fun r s x h1 h2 => ?_, fun o ho hoh => ?_⟩
      · have := nodup_lt (hD.hnd r) fun x hx => (hD.hat r x hx).1
        omega
      · have a1 := (hD.hat r x h1).2.2.2
        have a2 := (hD.hat s x h2).2.2.2
        rw [a1] at a2
        cases a2
        rfl
      · obtain ⟨h1, h2, h3⟩ := hD.done ok ho hoh
        exact hQ o h1 h2 h3
    · rw [List.concat_eq_append] at hD hm2 ⊢
      have hlL : l < V.lefts.length := hD.wlt l (by simp)
      have hal : l < ats.length := by omega
      have hW := nodup_lt hD.wnd hD.wlt
      refine .inr ⟨by simp, W'.map nD, nD l, by simp, ?_⟩
      rw [fIx_lst hal, fIx_rks hlL]
      rw [fLen_rk]
      refine ⟨pl_nD, pl_int, ?_⟩
      by_cases he : at0 ats l = (row V.lefts l).length
      · refine .inr ⟨?_, tot V ats * 21 + W'.length, ?_, hs, ats, W', _, _, _, rfl, hl1, hl2, hD.drop he, rfl⟩
        · rw [he]; exact eqD_ii.trans (by simp)
        · simp at hm2; omega
      · have hlt : at0 ats l < (row V.lefts l).length := by have := hD.atl l; omega
        have hr0 : (row V.lefts l)[at0 ats l]? = some (at0 (row V.lefts l) (at0 ats l)) := at0_get hlt
        generalize hr' : at0 (row V.lefts l) (at0 ats l) = r at *
        have hrm : r < V.rights.length := (row_lt ok (List.mem_of_getElem? hr0)).2
        have hrs : r < hs.length := by omega
        refine .inl ⟨?_, ?_⟩
        · show eqD (.int _) (.int _) = false
          rw [eqD_ii]
          simp
          omega
        rw [fIx_rks hlL]
        rw [fIx_lst hal, fIx_rk hlt, hr']
        refine ⟨l, rfl, (at0 ats l : Int), ⟨_, at0_get hal, rfl⟩, ?_⟩
        rw [fIx_held hrs]
        have hB : (row hs r ++ [l]).map nD = (row hs r).map nD ++ [nD l] := by simp
        have hhl := nodup_lt (hD.hnd r) fun x hx => (hD.hat r x hx).1
        refine ⟨_, .inl rfl, by simp; omega, ?_⟩
        rw [← hB]
        refine ⟨V, r, row hs r ++ [l], rfl, ok, hrm, ⟨_, rfl⟩, _, rfl, r, rfl, r, by rw [List.length_map]; exact ixN_nat hrs, ?_⟩
        have hD' := hD.ask ok hr0
        change DAI V _ (fun s => if s = r then takenL V r (fun q => decide (q ∈ row hs r ++ [l])) else row hs s) (W' ++ (row hs r ++ [l]).filter fun x => !decide (x ∈ takenL V r (fun q => decide (q ∈ row hs r ++ [l])))) at hD'
        generalize ht : (takenL V r fun q => decide (q ∈ row hs r ++ [l])) = t at *
        have hset : (hs.map fun x => Dat.lst (x.map nD)).set r (.lst (t.map nD)) = (hs.set r t).map fun x => Dat.lst (x.map nD) := by rw [List.map_set]
        have hset2 : (ats.map nD).set l (.int ((at0 ats l : Int) + 1)) = (ats.set l (at0 ats l + 1)).map nD := by rw [List.map_set]; rfl
        rw [hset, hset2]
        change dLc 1024 _ _ _ _ _ [_, Sl.own (heldD (hs.set r t)), _, _, _, _, _, _, _] _
        refine lc_lst (row hs r ++ [l]) nD (fun x => if (!decide (x ∈ t)) = true then some (nD x) else none) (fun P h => ⟨_, rfl, h⟩) (by simp; omega) (fun x hx R hR => ?_) ?_
        · simp
          rw [fIx_held (by simpa using hrs), row_set_same hrs]
          rw [fIn_lst]
          by_cases hxt : x ∈ t
          · exact .inl ⟨by simp [hxt], by simpa [hxt] using hR⟩
          · exact .inr ⟨by simp [hxt], by simpa [hxt] using hR⟩
        · rw [fm_if]
          have e1 : (fun x => if x = l then at0 ats l + 1 else at0 ats x) = at0 (ats.set l (at0 ats l + 1)) := by
            funext x
            by_cases e : x = l
            · subst e; rw [if_pos rfl, at0_set_same hal]
            · rw [if_neg e, at0_set_ne e]
          have e2 : (fun s => if s = r then t else row hs s) = row (hs.set r t) := by
            funext x
            by_cases e : x = r
            · subst e; rw [if_pos rfl, row_set_same hrs]
            · rw [if_neg e, row_set_ne e]
          rw [e1, e2] at hD'
          have hW2 := nodup_lt hD'.wnd hD'.wlt
          have hts := tot_set hlL hal hlt
          refine ⟨_, rfl, ?_, _, ?_, hs.set r t, ats.set l (at0 ats l + 1), _, Sl.val (nD l), Sl.val (nD r), Sl.val (.lst ((row hs r ++ [l]).map nD)), by simp only [List.map_append]; rfl, by simpa using hl1, by simpa using hl2, hD', rfl⟩
          · simp at hW2 ⊢
            omega
          · simp only [List.length_append] at hW2 hm2 ⊢
            omega
end
end K90
set_option maxRecDepth 100000
set_option maxHeartbeats 4000000
namespace K90
open PySem PySem.Spec PyProof.Rows L2 RZ DL
open C8 (call_isC pe_gc InsC)
open M90
def Rf (ks : List (List Key × Dat)) (l r : Nat) : Bool := (lookD ks [.inl (l : Int), .inl (r : Int)]).isSome
def opn (V : PL) (ks : List (List Key × Dat)) (r : Nat) : List Nat := (row V.rights r).filter fun l => fitB V.lefts V.rights l r && !Rf ks l r
def offs (V : PL) (ks : List (List Key × Dat)) : List (List Nat) := (List.range V.rights.length).map fun r => takenL V r fun l => decide (l ∈ opn V ks r)
@[simp] theorem keyD_nD {a : Nat} : keyD (nD a) = some (.inl (a : Int)) := rfl
theorem keys2 {a b : Nat} : [nD a, nD b].mapM keyD = some [.inl (a : Int), .inl (b : Int)] := by rfl
def of_Iv (C : Addr) (V : PL) (ks : List (List Key × Dat)) (i : Nat) (ε : Ev) : Prop := ∃ x3 x4 x5 x6 : Sl, ε = [Sl.val (Dat.obj C (fsP V)), Sl.val (.dtt ks), Sl.own (heldD ((offs V ks).take i)), x3, x4, x5, x6]
def S_offers_of (C : Addr) : List Dat → (Dat → Prop) → Prop := fun ds P => ∃ (V : PL) (ks : List (List Key × Dat)), ds = [pPl C V, .dtt ks] ∧ V.Ok ∧ P (heldD (offs V ks))
theorem len_offers_of {C : Addr} (ds : List Dat) (Q : Dat → Prop) (h : S_offers_of C ds Q) : ds.length = P_offers_of.length := by
  obtain ⟨V, ks, rfl, _⟩ := h; rfl
section
variable {P : Program} {w : World} {K : PySem.W.Frag} {mg : Str → Option Value} {base : Heap}
theorem ok_offers_of (g : Fx K mg) : FnOk P w K mg base L2.CX0 2 g.f_offers_of g.fd_offers_of P_offers_of (spF 0 (S_offers_of g.C_Places)) := by
  refine okD g.F_offers_of sc_offers_of len_offers_of (fun cdv A outer s H E hr => ?_)
  have nd := (sc_offers_of).nd
  refine ⟨_, SDs.cost (sds_cons (sd_asgO (i := 2) (pd_lst pad_nil) nd rfl (.inl rfl)) (sds_cons (sd_for 1024 PassesOwn.never rfl (pid_enum (by rfl) g.b_enumerate (pad_cons (pd_fld g.cl_Places g.na_Places_rights (pd_var (pv 0))) pad_nil)) (pgd_tup (n := 2) rfl (pgsd_cons (pgd_name (i := 3) nd rfl (.inr rfl)) (pgsd_cons (pgd_name (i := 4) nd rfl (.inl rfl)) pgsd_nil))) (sds_cons (sd_setLc (i := 5) 1024 rfl nd rfl rfl (by rfl) (pid_tup (pd_var (pv 4))) (blkOk_by (own := [("left", 6)]) (by kernel_rfl)) (fun _ _ _ _ _ => (pgd_name (i := 6) nd rfl (by first | exact .inl rfl | exact .inr rfl))) (fun _ _ _ _ _ => (ptsd_one ((pwd_and (ptd_val (pd_call (ok_does_fit g) (hr.mono (by decide)) (by rfl) g.g_does_fit g.F_does_fit.kp (b_does_fit g) (pad_cons (pd_var (pv 0)) (pad_cons (pd_var (pv 6)) (pad_cons (pd_var (pv 3)) pad_nil))))) (pwd_and1 (ptd_ninT (ru1 hr) (pad_cons (pd_var (pv 6)) (pad_cons (pd_var (pv 3)) pad_nil)) ((pd_var (pv 1))).toSh)))).pt)) (fun _ _ _ _ _ => (pd_var (pv 6)))) (sds_cons (((sd_app (pv 2) (pd_call (ok_taken_of g) (hr.mono (by decide)) (by rfl) g.g_taken_of g.F_taken_of.kp (b_taken_of g) (pad_cons (pd_var (pv 0)) (pad_cons (pd_var (pv 3)) (pad_cons (pd_var (pv 5)) pad_nil)))))).frz 5) sds_nil))) (sds_cons (((sd_ret (pd_var (pv 2)))).frz 2) sds_nil))) (by decide), fun ds Q h => ?_⟩
  obtain ⟨V, ks, rfl, ok, hQ⟩ := h
  have hn := ok.sd.1.2.1
  have hm := ok.sd.2.1.2.1
  simp [pPl]
  refine for_en (ds := V.rights.map rk) (d := rks V.rights) (fun P h => ?_) (.inr rfl) (by simp; omega) (of_Iv g.C_Places V ks) ⟨.off, .off, .off, .off, by simp [heldD]⟩ (fun i d ε hd ⟨x3, x4, x5, x6, hε⟩ => ?_) (fun ε ⟨x3, x4, x5, x6, hε⟩ => ?_)
  · simp
    exact h
  · obtain ⟨hi, rfl⟩ := map_rks_get hd
    subst hε
    have hrow := ok.sd.2.1.2.2 _ (row_mem hi)
    simp
    rw [show Dat.int (i : Int) = nD i from rfl]
    refine lc_tup (row V.rights i) nD (fun l => if (fitB V.lefts V.rights l i && !Rf ks l i) = true then some (nD l) else none) (fun P h => ⟨_, rfl, h⟩) (by have := hrow.len; omega) (fun l hl R hR => ?_) ?_
    · simp [keys2]
      have hlL := hrow.2.1 l hl
      refine ⟨V, l, i, rfl, hlL, hi, ?_⟩
      by_cases hf : fitB V.lefts V.rights l i = true
      · refine .inr ⟨by rw [hf], ?_⟩
        cases hR0 : Rf ks l i with
        | false =>
          refine .inr ⟨?_, by simpa [hf, hR0] using hR⟩
          have := hR0
          unfold Rf at this
          simpa using this
        | true =>
          refine .inl ⟨?_, by simpa [hf, hR0] using hR⟩
          have := hR0
          unfold Rf at this
          simpa using this
      · exact .inl ⟨by simpa using hf, by simpa [hf] using hR⟩
    · rw [fm_if]
      refine ⟨⟨_, rfl⟩, V, i, opn V ks i, rfl, ok, hi, _, rfl, ?_, ?_⟩
      · simp [offs]; omega
      · have e : (offs V ks).take (i + 1) = (offs V ks).take i ++ [takenL V i fun l => decide (l ∈ opn V ks i)] := by
          rw [List.take_add_one]
          simp [offs, hi]
        have e2 : Dat.lst (((offs V ks).take i).map (fun x => Dat.lst (x.map nD)) ++ [Dat.lst ((takenL V i fun l => decide (l ∈ opn V ks i)).map nD)]) = heldD ((offs V ks).take (i + 1)) := by
          rw [e]
          unfold heldD
          rw [List.map_append]
          rfl
        rw [e2]
        exact ⟨_, _, _, _, rfl⟩
  · subst hε
    simp
    rw [show V.rights.length = (offs V ks).length by simp [offs], List.take_length]
    exact hQ
end
end K90
set_option maxRecDepth 100000
set_option maxHeartbeats 2000000
/-! M4: the rights offer, plain. -/
namespace K90
open PySem PySem.Spec PyProof.Rows L2 RZ DL M90
def WorstP (V : PL) (o : List (Option Nat)) : Prop := ∀ ν, StabP V ν → ∀ l r, oat o l = some r → ∃ s, ν l = some s ∧ ixo (row V.lefts l) s ≤ ixo (row V.lefts l) r
/-- whom a right is open to, by a refusal predicate -/
def opR (V : PL) (R : Nat → Nat → Prop) [∀ l r, Decidable (R l r)] (r : Nat) : Nat → Bool := fun l => decide (l ∈ row V.rights r) && decide (r ∈ row V.lefts l) && !decide (R l r)
structure RPI (V : PL) (R : Nat → Nat → Prop) [∀ l r, Decidable (R l r)] : Prop where
  safe : ∀ l r, R l r → ∀ ν, StabP V ν → ∃ s, ν l = some s ∧ ixo (row V.lefts l) s < ixo (row V.lefts l) r
  back : ∀ l r, R l r → ∃ s, ixo (row V.lefts l) s < ixo (row V.lefts l) r ∧ l ∈ ChL V s (opR V R s)
section
variable {V : PL} {R R' : Nat → Nat → Prop} [∀ l r, Decidable (R l r)] [∀ l r, Decidable (R' l r)]
theorem opR_iff {r l : Nat} : opR V R r l = true ↔ l ∈ row V.rights r ∧ r ∈ row V.lefts l ∧ ¬ R l r := by
  simp [opR, and_assoc]
/-- an offer is at most a stable partner's worth -/
theorem RPI.offer (ok : V.Ok) (d : RPI V R) {l r : Nat} (h : l ∈ ChL V r (opR V R r)) : ∀ ν, StabP V ν → ∃ s, ν l = some s ∧ ixo (row V.lefts l) s ≤ ixo (row V.lefts l) r := fun ν st => by
  obtain ⟨h1, h2, h3⟩ := opR_iff.mp (Ch_in h).2
  obtain ⟨hl, hr⟩ := row_lt ok h2
  apply Classical.byContradiction
  intro hn
  have hab : abB (row V.lefts l) r (ν l) = true := by
    cases e : ν l with
    | none => rfl
    | some s =>
      show decide (ixo (row V.lefts l) r < ixo (row V.lefts l) s) = true
      rw [decide_eq_true_eq]
      apply Classical.byContradiction
      intro q
      exact hn ⟨s, e, by omega⟩
  refine st.nb l r hl h2 hab (Ch_sub ok hr (fun y hy => ?_) h (by simp))
  have hy : ν y = some r ∨ y = l := by simpa using hy
  rcases hy with hy | hy
  · obtain ⟨g1, g2, g3⟩ := st.ir y r hy
    refine opR_iff.mpr ⟨(Ch_in g3).1, g2, fun q => ?_⟩
    obtain ⟨s, e1, e2⟩ := d.safe y r q ν st
    rw [hy] at e1
    cases e1
    omega
  · subst hy
    exact (Ch_in h).2
/-- who is offered a left, from the left's best on -/
def mine (V : PL) (R : Nat → Nat → Prop) [∀ l r, Decidable (R l r)] (l : Nat) : List Nat := (row V.lefts l).filter fun r => decide (l ∈ ChL V r (opR V R r))
theorem mine_ixo (ok : V.Ok) {l : Nat} (hl : l < V.lefts.length) {a : Nat} {t : List Nat} (h : mine V R l = a :: t) : (∀ r ∈ t, ixo (row V.lefts l) a < ixo (row V.lefts l) r) ∧ a ∉ t := by
  have hnd := (ok.sd.1.2.2 _ (row_mem hl)).1
  have hs : (a :: t).Sublist (row V.lefts l) := by rw [← h]; exact List.filter_sublist
  have hn2 := hs.nodup hnd
  rw [List.nodup_cons] at hn2
  refine ⟨fun r hr => ?_, hn2.1⟩
  have h2 : [a, r].Sublist (row V.lefts l) := ((List.singleton_sublist.mpr hr).cons₂ a).trans hs
  clear h hs hn2
  generalize row V.lefts l = xs at *
  induction xs with
  | nil => simp at h2
  | cons x xs ih =>
    rw [List.nodup_cons] at hnd
    cases h2 with
    | cons _ h2 =>
      have hxa : x ≠ a := fun e => hnd.1 (e ▸ h2.subset (by simp))
      have hxr : x ≠ r := fun e => hnd.1 (e ▸ h2.subset (by simp))
      have := ih hnd.2 h2
      unfold ixo at this ⊢
      simp only [List.idxOf_cons, beq_eq_false_iff_ne.mpr hxa, beq_eq_false_iff_ne.mpr hxr, cond_false]
      omega
    | cons_cons _ h2 =>
      have hrx : r ∈ xs := List.singleton_sublist.mp h2
      have hxr : a ≠ r := fun e => hnd.1 (e ▸ hrx)
      unfold ixo
      simp only [List.idxOf_cons, beq_eq_false_iff_ne.mpr hxr, cond_false, beq_self_eq_true, cond_true]
      omega
theorem mem_mine {l r : Nat} (ok : V.Ok) : r ∈ mine V R l ↔ l ∈ ChL V r (opR V R r) := by
  unfold mine
  rw [List.mem_filter, decide_eq_true_eq]
  exact ⟨fun h => h.2, fun h => ⟨(opR_iff.mp (Ch_in h).2).2.1, h⟩⟩
theorem RPI.turn (ok : V.Ok) (d : RPI V R) (h : ∀ l r, R' l r ↔ R l r ∨ r ∈ (mine V R l).tail) : RPI V R' := by
  have key : ∀ l r, R' l r → ∃ a, ixo (row V.lefts l) a < ixo (row V.lefts l) r ∧ l ∈ ChL V a (opR V R a) ∧ ¬ R' l a := fun l r hR => by
    have hne : mine V R l ≠ [] ∧ ∀ a t, mine V R l = a :: t → ixo (row V.lefts l) a < ixo (row V.lefts l) r := by
      rcases (h l r).mp hR with q | q
      · obtain ⟨s, h1, h2⟩ := d.back l r q
        have hs := (mem_mine ok).mpr h2
        refine ⟨fun e => by rw [e] at hs; simp at hs, fun a t e => ?_⟩
        rw [e] at hs
        rcases List.mem_cons.mp hs with e2 | hs
        · subst e2; exact h1
        · have hl := (row_lt ok (opR_iff.mp (Ch_in h2).2).2.1).1
          have := (mine_ixo ok hl e).1 s hs
          omega
      · refine ⟨fun e => by rw [e] at q; simp at q, fun a t e => ?_⟩
        have hr : r ∈ mine V R l := List.mem_of_mem_tail q
        have hl := (row_lt ok (opR_iff.mp (Ch_in ((mem_mine ok).mp hr)).2).2.1).1
        rw [e] at q
        exact (mine_ixo ok hl e).1 r q
    cases e : mine V R l with
    | nil => exact (hne.1 e).elim
    | cons a t =>
      have ha := (mem_mine ok).mp (show a ∈ mine V R l by rw [e]; simp)
      have hl := (row_lt ok (opR_iff.mp (Ch_in ha).2).2.1).1
      refine ⟨a, hne.2 a t e, ha, fun q => ?_⟩
      rcases (h l a).mp q with q | q
      · exact (opR_iff.mp (Ch_in ha).2).2.2 q
      · rw [e] at q
        exact (mine_ixo ok hl e).2 q
  refine ⟨fun l r hR ν st => ?_, fun l r hR => ?_⟩
  · obtain ⟨a, h1, h2, _⟩ := key l r hR
    obtain ⟨s, e1, e2⟩ := d.offer ok h2 ν st
    exact ⟨s, e1, by omega⟩
  · obtain ⟨a, h1, h2, h3⟩ := key l r hR
    obtain ⟨g1, g2, g3⟩ := opR_iff.mp (Ch_in h2).2
    refine ⟨a, h1, Ch_sub ok (row_lt ok g2).2 (fun y hy => ?_) h2 (opR_iff.mpr ⟨g1, g2, h3⟩)⟩
    obtain ⟨q1, q2, q3⟩ := opR_iff.mp hy
    exact opR_iff.mpr ⟨q1, q2, fun q => q3 ((h y a).mpr (.inl q))⟩
theorem RPI.done (ok : V.Ok) (d : RPI V R) (hno : ∀ l, (mine V R l).tail = []) {o : List (Option Nat)} (ho : o.length = V.lefts.length) (hoh : ∀ l, l < V.lefts.length → oat o l = (mine V R l).head?) :
    IsOut V o ∧ (∀ l r, ¬ Blk V o l r) ∧ WorstP V o := by
  have iff : ∀ l r, oat o l = some r ↔ l ∈ ChL V r (opR V R r) := fun l r => by
    rcases Nat.lt_or_ge l V.lefts.length with hl | hl
    · rw [hoh l hl, ← mem_mine ok]
      have := hno l
      cases e : mine V R l with
      | nil => simp
      | cons a t =>
        rw [e] at this
        have ht : t = [] := this
        subst ht
        simp [eq_comm]
    · constructor
      · intro h
        simp [oat, show o.length ≤ l by omega] at h
      · intro h
        have := (row_lt ok (opR_iff.mp (Ch_in h).2).2.1).1
        omega
  have hmb : ∀ r, r < V.rights.length → ChL V r (fun l => decide (l ∈ memb o r)) = ChL V r (opR V R r) := fun r hr => Ch_irc (fun x hx => by
    have := mem_memb.mp (show x ∈ memb o r by simpa using hx)
    exact (Ch_in ((iff x r).mp this)).2) fun x hx => by simpa using mem_memb.mpr ((iff x r).mpr hx)
  refine ⟨⟨ho, fun l r h hl => ?_, fun r hr => ?_⟩, fun l r hB => ?_, fun ν st l r h => d.offer ok ((iff l r).mp h) ν st⟩
  · obtain ⟨h1, h2, h3⟩ := opR_iff.mp (Ch_in ((iff l r).mp h)).2
    exact ⟨(row_lt ok h2).2, fitB_iff.mpr ⟨h2, h1⟩⟩
  · unfold takenL
    rw [hmb r hr]
    unfold memb asc
    rw [ho]
    apply List.filter_congr
    intro x hx
    exact decide_eq_decide.mpr (iff x r).symm
  · obtain ⟨h1, h2, h3, h4, h5, h6⟩ := hB
    have hr := (row_lt ok h2).2
    by_cases hR : R l r
    · obtain ⟨s, q1, q2⟩ := d.back l r hR
      rw [(iff l s).mpr q2] at h5
      have h5 : decide (ixo (row V.lefts l) r < ixo (row V.lefts l) s) = true := h5
      rw [decide_eq_true_eq] at h5
      omega
    · have hop : opR V R r l = true := opR_iff.mpr ⟨(Ch_in h6).1, h2, hR⟩
      have : ChL V r (fun x => decide (x ∈ memb o r ++ [l])) = ChL V r (opR V R r) := Ch_irc (fun x hx => by
        have hx : x ∈ memb o r ++ [l] := by simpa using hx
        rcases List.mem_append.mp hx with hx | hx
        · exact (Ch_in ((iff x r).mp (mem_memb.mp hx))).2
        · rw [List.mem_singleton.mp hx]; exact hop) fun x hx => by
          have := mem_memb.mpr ((iff x r).mpr hx)
          simp [this]
      rw [this] at h6
      exact h4 ((iff l r).mpr h6)
end
theorem RPI.none (V : PL) : RPI V (fun _ _ => False) := ⟨fun _ _ h => h.elim, fun _ _ h => h.elim⟩
end K90
set_option maxRecDepth 100000
set_option maxHeartbeats 4000000
namespace K90
open PySem PySem.Spec PyProof.Rows L2 RZ DL
open C8 (call_isC pe_gc InsC)
open M90
abbrev R0 (ks : List (List Key × Dat)) (l r : Nat) : Prop := Rf ks l r = true
def cnt (V : PL) (ks : List (List Key × Dat)) : Nat := ((List.range V.lefts.length).map fun l => ((List.range V.rights.length).map fun r => if Rf ks l r = true then 0 else 1).sum).sum
theorem opn_opR {V : PL} {ks : List (List Key × Dat)} {r : Nat} : (fun l => decide (l ∈ opn V ks r)) = opR V (R0 ks) r := by
  funext l
  rw [Bool.eq_iff_iff, opR_iff, decide_eq_true_eq]
  unfold opn
  rw [List.mem_filter, Bool.and_eq_true, fitB_iff]
  exact ⟨fun h => ⟨h.1, h.2.1.1, by simpa using h.2.2⟩, fun h => ⟨h.1, ⟨h.2.1, h.1⟩, by simpa using h.2.2⟩⟩
theorem offs_row {V : PL} {ks : List (List Key × Dat)} {r l : Nat} (ok : V.Ok) (hr : r < V.rights.length) : l ∈ row (offs V ks) r ↔ l ∈ ChL V r (opR V (R0 ks) r) := by
  have : row (offs V ks) r = takenL V r fun l => decide (l ∈ opn V ks r) := by simp [row, offs, hr]
  rw [this, mem_takenL ok hr, opn_opR]
theorem offs_len {V : PL} {ks : List (List Key × Dat)} : (offs V ks).length = V.rights.length := by simp [offs]
theorem key_any {ks : List (List Key × Dat)} {k : List Key} (h : (lookD ks k).isSome = false) : (ks.any fun kv => decide (kv.1 = k)) = false := by
  induction ks with
  | nil => rfl
  | cons a ks ih =>
    rw [List.any_cons]
    by_cases e : a.1 = k
    · simp [lookD, e] at h
    · have : (lookD ks k).isSome = false := by simpa [lookD, e] using h
      rw [ih this]
      simp [e]
theorem put_new {ks : List (List Key × Dat)} {k : List Key} {d : Dat} (h : (lookD ks k).isSome = false) : putD ks k d = ks ++ [(k, d)] := by
  unfold putD
  rw [key_any h]
  rfl
theorem look_app {ks : List (List Key × Dat)} {k k' : List Key} {d : Dat} : (lookD (ks ++ [(k, d)]) k').isSome = ((lookD ks k').isSome || decide (k = k')) := by
  unfold lookD
  rw [List.find?_append]
  cases e : ks.find? fun kv => decide (kv.1 = k') with
  | some v => simp
  | none =>
    by_cases h : k = k'
    · simp [h]
    · simp [h]
theorem Rf_put {ks : List (List Key × Dat)} {l r : Nat} {d : Dat} (h : ¬ R0 ks l r) (a b : Nat) : R0 (putD ks [.inl (l : Int), .inl (r : Int)] d) a b ↔ R0 ks a b ∨ (a = l ∧ b = r) := by
  have h' : (lookD ks [.inl (l : Int), .inl (r : Int)]).isSome = false := by
    cases e : (lookD ks [.inl (l : Int), .inl (r : Int)]).isSome with
    | false => rfl
    | true => exact (h e).elim
  unfold R0 Rf
  rw [put_new h', look_app, Bool.or_eq_true, decide_eq_true_eq]
  have : ([.inl (l : Int), .inl (r : Int)] : List Key) = [.inl (a : Int), .inl (b : Int)] ↔ a = l ∧ b = r := by
    constructor
    · intro q
      simp only [List.cons.injEq, Sum.inl.injEq, and_true] at q
      omega
    · rintro ⟨rfl, rfl⟩; rfl
  rw [this]
theorem cnt_put {V : PL} {ks : List (List Key × Dat)} {l r : Nat} {d : Dat} (hl : l < V.lefts.length) (hr : r < V.rights.length) (h : ¬ R0 ks l r) : cnt V ks = cnt V (putD ks [.inl (l : Int), .inl (r : Int)] d) + 1 := by
  have hp := Rf_put (d := d) h
  generalize putD ks [.inl (l : Int), .inl (r : Int)] d = ks' at *
  have same : ∀ a b, ¬ (a = l ∧ b = r) → (if Rf ks a b = true then 0 else 1) = (if Rf ks' a b = true then 0 else 1) := fun a b hab => by
    have := hp a b
    by_cases q : Rf ks a b = true
    · rw [if_pos q, if_pos (this.mpr (.inl q))]
    · rw [if_neg q, if_neg (fun q2 => (this.mp q2).elim q hab)]
  unfold cnt
  refine sum_set hl (sum_set hr ?_ fun b hb => same l b fun q => hb q.2) fun a ha => ?_
  · show (if Rf ks l r = true then 0 else 1) = (if Rf ks' l r = true then 0 else 1) + 1
    rw [if_neg h, if_pos ((hp l r).mpr (.inr ⟨rfl, rfl⟩))]
  · show ((List.range V.rights.length).map fun r => if Rf ks a r = true then 0 else 1).sum = ((List.range V.rights.length).map fun r => if Rf ks' a r = true then 0 else 1).sum
    congr 1
    exact List.map_congr_left fun b _ => same a b fun q => ha q.1
theorem put_len {ks : List (List Key × Dat)} {l r : Nat} {d : Dat} (h : ¬ R0 ks l r) : (putD ks [.inl (l : Int), .inl (r : Int)] d).length = ks.length + 1 := by
  have h' : (lookD ks [.inl (l : Int), .inl (r : Int)]).isSome = false := by
    cases e : (lookD ks [.inl (l : Int), .inl (r : Int)]).isSome with
    | false => rfl
    | true => exact (h e).elim
  rw [put_new h']
  simp
theorem sum_c {c : Nat} : ∀ n : Nat, ((List.range n).map fun _ => c).sum = n * c
  | 0 => by simp
  | n + 1 => by
    rw [List.range_succ, List.map_append, List.sum_append, sum_c n]
    simp [Nat.succ_mul]
theorem noDs_nD : ∀ xs : List Nat, noDs (xs.map nD) = true
  | [] => rfl
  | x :: xs => by rw [List.map_cons, noDs, noDs_nD xs]; rfl
theorem noD_held : ∀ h : List (List Nat), noD (heldD h) = true := fun h => by
  show noDs (h.map fun x => Dat.lst (x.map nD)) = true
  induction h with
  | nil => rfl
  | cons x h ih =>
    rw [List.map_cons, noDs, ih]
    show (noDs (x.map nD) && true) = true
    rw [noDs_nD]
    rfl
theorem cut1 {α : Type} (xs : List α) : cut xs (some 1) none = xs.tail := by
  unfold cut
  rw [show HT.sIx xs.length 0 (some 1) = min 1 xs.length from HT.sIx_nat xs.length 0 1, HT.sIx_none]
  cases xs with
  | nil => rfl
  | cons x r =>
    rw [show min 1 (x :: r).length = 1 by rw [List.length_cons]; omega]
    simp
def woFin (V : PL) (x4 : Sl) : Prop := ∃ o, x4 = Sl.own (.lst (o.map oD)) ∧ IsOut V o ∧ (∀ l r, ¬ Blk V o l r) ∧ WorstP V o
def wo_Iv (C : Addr) (V : PL) (m : Nat) (ε : Ev) : Prop := ∃ (ks : List (List Key × Dat)) (b : Bool) (x3 x4 x5 x6 x7 x8 : Sl), ε = [Sl.val (Dat.obj C (fsP V)), Sl.own (.dtt ks), Sl.val (.bl b), x3, x4, x5, x6, x7, x8] ∧ ks.length + cnt V ks = V.lefts.length * V.rights.length ∧
  RPI V (R0 ks) ∧ (b = true → m = cnt V ks + 1) ∧ (b = false → m = 0 ∧ woFin V x4)
def wo_Iw (C : Addr) (V : PL) (k0 : List (List Key × Dat)) (i : Nat) (ε : Ev) : Prop := ∃ (ks : List (List Key × Dat)) (b : Bool) (kp : List (Option Nat)) (x5 x6 x7 x8 : Sl), ε = [Sl.val (Dat.obj C (fsP V)), Sl.own (.dtt ks), Sl.val (.bl b), Sl.val (heldD (offs V k0)), Sl.own (.lst (kp.map oD)), x5, x6, x7, x8] ∧ kp.length = V.lefts.length ∧
  (∀ l, oat kp l = if l < i then (mine V (R0 k0) l).head? else none) ∧ (∀ l r, R0 ks l r ↔ R0 k0 l r ∨ (l < i ∧ r ∈ (mine V (R0 k0) l).tail)) ∧ ks.length + cnt V ks = V.lefts.length * V.rights.length ∧ (b = false → ∀ l, l < i → (mine V (R0 k0) l).tail = []) ∧ (b = true → cnt V ks < cnt V k0) ∧ cnt V ks ≤ cnt V k0
def wo_Ix (C : Addr) (V : PL) (k0 : List (List Key × Dat)) (kp : List (Option Nat)) (i j : Nat) (ε : Ev) : Prop := ∃ (ks : List (List Key × Dat)) (b : Bool) (x8 : Sl), ε = [Sl.val (Dat.obj C (fsP V)), Sl.own (.dtt ks), Sl.val (.bl b), Sl.val (heldD (offs V k0)), Sl.own (.lst (kp.map oD)), Sl.val (nD i), Sl.val (rk (row V.lefts i)), Sl.val (.lst ((mine V (R0 k0) i).map nD)), x8] ∧
  (∀ l r, R0 ks l r ↔ R0 k0 l r ∨ (l < i ∧ r ∈ (mine V (R0 k0) l).tail) ∨ (l = i ∧ r ∈ (mine V (R0 k0) i).tail.take j)) ∧ ks.length + cnt V ks = V.lefts.length * V.rights.length ∧ (b = false → (∀ l, l < i → (mine V (R0 k0) l).tail = []) ∧ j = 0) ∧ (b = true → cnt V ks < cnt V k0) ∧ cnt V ks ≤ cnt V k0
theorem mine_len {V : PL} {ks : List (List Key × Dat)} {i : Nat} (ok : V.Ok) (hi : i < V.lefts.length) : (mine V (R0 ks) i).length ≤ 20 := by
  have h1 : (mine V (R0 ks) i).length ≤ (row V.lefts i).length := List.length_filter_le _ _
  have h2 := (ok.sd.1.2.2 _ (row_mem hi)).len
  omega
theorem mine_new {V : PL} {ks : List (List Key × Dat)} {l r : Nat} (ok : V.Ok) (h : r ∈ mine V (R0 ks) l) : ¬ R0 ks l r ∧ r < V.rights.length := by
  obtain ⟨h1, h2, h3⟩ := opR_iff.mp (Ch_in ((mem_mine ok).mp h)).2
  exact ⟨h3, (row_lt ok h2).2⟩
theorem mine_nd {V : PL} {ks : List (List Key × Dat)} {i : Nat} (ok : V.Ok) (hi : i < V.lefts.length) : (mine V (R0 ks) i).tail.Nodup :=
  (List.tail_sublist _).nodup (List.Pairwise.filter _ (ok.sd.1.2.2 _ (row_mem hi)).1)
theorem wo_in {C : Addr} {V : PL} (ok : V.Ok) {k0 ks1 : List (List Key × Dat)} {b : Bool} {kp : List (Option Nat)} {i : Nat} {x8 : Sl} {E : DE} (hi : i < V.lefts.length) (hE : ∀ ε, wo_Iw C V k0 (i + 1) ε → E.nx ε)
    (hkl : kp.length = V.lefts.length) (hkp : ∀ l, oat kp l = if l < i + 1 then (mine V (R0 k0) l).head? else none) (hRf : ∀ l r, R0 ks1 l r ↔ R0 k0 l r ∨ (l < i ∧ r ∈ (mine V (R0 k0) l).tail)) (hkc : ks1.length + cnt V ks1 = V.lefts.length * V.rights.length)
    (hb3 : b = false → ∀ l, l < i → (mine V (R0 k0) l).tail = []) (hb4 : b = true → cnt V ks1 < cnt V k0) (hle : cnt V ks1 ≤ cnt V k0) (hnm : V.lefts.length * V.rights.length ≤ 400) :
    sFor 1024 (iL (dSl (dVar 7) (oSome (dC (Dat.int 1))) oNone)) (gN 8) (sSeq (sPutT 1 (aCons (dVar 5) (aCons (dVar 8) aNil)) (dC (Dat.bl true))) (sSeq (sAsg 2 (dC (Dat.bl true))) sNext)) E
      [Sl.val (Dat.obj C (fsP V)), Sl.own (Dat.dtt ks1), Sl.val (Dat.bl b), Sl.val (heldD (offs V k0)), Sl.own (Dat.lst (kp.map oD)), Sl.val (nD i), Sl.val (rk (row V.lefts i)), Sl.val (.lst ((mine V (R0 k0) i).map nD)), x8] := by
  have hml := mine_len (ks := k0) ok hi
  refine for_lst (ds := (mine V (R0 k0) i).tail.map nD) (fun P h => ?_) (by simp; omega) (wo_Ix C V k0 kp i) ⟨ks1, b, x8, rfl, fun l r => by simp [hRf l r], hkc, fun h => ⟨hb3 h, rfl⟩, hb4, hle⟩ (fun j d ε hd ⟨ks, b, x8, hε, hRf, hkc, hb3, hb4, hle⟩ => ?_) (fun ε ⟨ks, b, x8, hε, hRf, hkc, hb3, hb4, hle⟩ => hE ε ?_)
  · simp
    rw [cut1, ← List.map_tail]
    exact h
  · obtain ⟨hj, hj2, rfl⟩ := map_nD_get hd
    subst hε
    generalize at0 (mine V (R0 k0) i).tail j = r at *
    have hrm := List.mem_of_getElem? hj2
    obtain ⟨q1, q2⟩ := mine_new ok (List.mem_of_mem_tail hrm)
    have hnd := mine_nd (ks := k0) ok hi
    have htake : (mine V (R0 k0) i).tail.take (j + 1) = (mine V (R0 k0) i).tail.take j ++ [r] := by rw [List.take_add_one, hj2]; rfl
    have hnt : r ∉ (mine V (R0 k0) i).tail.take j := fun q => by
      have h9 : ((mine V (R0 k0) i).tail.take (j + 1)).Nodup := (List.take_sublist _ _).nodup hnd
      rw [htake] at h9
      exact (nodup_last h9).2 q
    have hnew : ¬ R0 ks i r := fun q => by
      rcases (hRf i r).mp q with q | ⟨q, _⟩ | ⟨_, q⟩
      · exact q1 q
      · omega
      · exact hnt q
    have hc := cnt_put (d := .bl true) hi q2 hnew
    have hl := put_len (d := .bl true) hnew
    simp
    refine ⟨by omega, putD ks [.inl (i : Int), .inl (r : Int)] (.bl true), true, _, rfl, fun a c => ?_, by omega, fun h => (by cases h), fun _ => by omega, by omega⟩
    rw [Rf_put hnew, hRf a c, htake]
    constructor
    · rintro ((h | h | ⟨h1, h2⟩) | ⟨h1, h2⟩)
      · exact .inl h
      · exact .inr (.inl h)
      · exact .inr (.inr ⟨h1, List.mem_append_left _ h2⟩)
      · exact .inr (.inr ⟨h1, by rw [h2]; simp⟩)
    · rintro (h | h | ⟨h1, h2⟩)
      · exact .inl (.inl h)
      · exact .inl (.inr (.inl h))
      · rcases List.mem_append.mp h2 with h2 | h2
        · exact .inl (.inr (.inr ⟨h1, h2⟩))
        · exact .inr ⟨h1, List.mem_singleton.mp h2⟩
  · subst hε
    rw [List.length_map, List.take_length] at hRf
    refine ⟨ks, b, kp, _, _, _, _, rfl, hkl, hkp, fun l r => (hRf l r).trans ?_, hkc, fun h l hl => ?_, hb4, hle⟩
    · constructor
      · rintro (h | ⟨h1, h2⟩ | ⟨h1, h2⟩)
        · exact .inl h
        · exact .inr ⟨by omega, h2⟩
        · subst h1; exact .inr ⟨by omega, h2⟩
      · rintro (h | ⟨h1, h2⟩)
        · exact .inl h
        · by_cases e : l = i
          · subst e; exact .inr (.inr ⟨rfl, h2⟩)
          · exact .inr (.inl ⟨by omega, h2⟩)
    · obtain ⟨h1, h2⟩ := hb3 h
      rw [List.length_map] at h2
      by_cases e : l = i
      · subst e; exact List.eq_nil_of_length_eq_zero h2
      · exact h1 l (by omega)
def S_worst_of (C : Addr) : List Dat → (Dat → Prop) → Prop := fun ds P => ∃ (V : PL), ds = [pPl C V] ∧ V.Ok ∧ ∀ o, IsOut V o → (∀ l r, ¬ Blk V o l r) → WorstP V o → P (outD o)
theorem len_worst_of {C : Addr} (ds : List Dat) (Q : Dat → Prop) (h : S_worst_of C ds Q) : ds.length = P_worst_of.length := by
  obtain ⟨V, rfl, _⟩ := h; rfl
section
variable {P : Program} {w : World} {K : PySem.W.Frag} {mg : Str → Option Value} {base : Heap}
theorem ok_worst_of (g : Fx K mg) : FnOk P w K mg base L2.CX0 3 g.f_worst_of g.fd_worst_of P_worst_of (spF 0 (S_worst_of g.C_Places)) := by
  refine okD g.F_worst_of sc_worst_of len_worst_of (fun cdv A outer s H E hr => ?_)
  have nd := (sc_worst_of).nd
  refine ⟨_, SDs.cost (sds_cons (sd_par (i := 1) (j := 2) (pmd_cons (m := .fr) pd_dnewT (pmd_cons (m := .rep) pd_bl pmd_nil)) rfl rfl nd rfl rfl (by decide) rfl rfl (by rfl)) (sds_cons (sd_while 1024 PassesOwn.never (ptd_val (pd_var (pv 2))) (sds_cons (sd_mul (xN := 0) (is := [3, 2, 4]) (pmd_cons (m := .rep) (pd_borD 1 (pd_call (ok_offers_of g) (hr.mono (by decide)) (by rfl) g.g_offers_of g.F_offers_of.kp (b_offers_of g) (pad_cons (pd_var (pv 0)) (pad_cons (pd_var (pv 1)) pad_nil)))) (pmd_cons (m := .rep) pd_bl (pmd_cons (m := .fr) (pd_op op_rep od_repL ((pd_lst (pad_cons pd_non pad_nil))).toSh ((pd_callB call_lenA cd_len (by rfl) g.b_len boot_len (phd_cons ((pd_fld g.cl_Places g.na_Places_lefts (pd_var (pv 0)))).toSh phd_nil))).toSh) pmd_nil))) rfl rfl rfl (pgs_cons (pg_name (i := 3) nd rfl (.inr rfl)) (pgs_cons (pg_name (i := 2) nd rfl (.inl rfl)) (pgs_cons (pg_name (i := 4) nd rfl (.inl rfl)) pgs_nil)))) (sds_cons (sd_for 1024 PassesOwn.never rfl (pid_enum (by rfl) g.b_enumerate (pad_cons (pd_fld g.cl_Places g.na_Places_lefts (pd_var (pv 0))) pad_nil)) (pgd_tup (n := 2) rfl (pgsd_cons (pgd_name (i := 5) nd rfl (.inr rfl)) (pgsd_cons (pgd_name (i := 6) nd rfl (.inl rfl)) pgsd_nil))) (sds_cons (sd_setLc (i := 7) 1024 rfl nd rfl rfl (by rfl) (pid_tup (pd_var (pv 6))) (blkOk_by (own := [("right", 8)]) (by kernel_rfl)) (fun _ _ _ _ _ => (pgd_name (i := 8) nd rfl (by first | exact .inl rfl | exact .inr rfl))) (fun _ _ _ _ _ => (ptsd_one (ptd_cmp (op_inA (ru hr)) od_in ((pd_var (pv 5))).toSh ((pd_ix (ix_all (ru1 hr)) od_ix ((pd_var (pv 3))).toSh ((pd_var (pv 8))).toSh (fun _ _ => rfl))).toSh (by with_unfolding_all rfl)))) (fun _ _ _ _ _ => (pd_var (pv 8)))) (sds_cons (((sd_setL (pv 4) (pd_var (pv 5)) (pd_if (ptd_cmp (op_neD (ru0 hr)) od_ne ((pd_var (pv 7))).toSh ((pd_lst pad_nil)).toSh (nomark _)) (pd_ix (ix_all (ru1 hr)) od_ix ((pd_var (pv 7))).toSh (pd_int).toSh (fun _ _ => rfl)) pd_non))).frz 7) (sds_cons (sd_for 1024 PassesOwn.never rfl (pid_list (pd_slice ((pd_var (pv 7))).toSh (pod_some pd_int) pod_none)) (pgd_name (i := 8) nd rfl (.inl rfl)) (sds_cons (sd_putT (ru1 hr) (pv 1) (pad_cons (pd_var (pv 5)) (pad_cons (pd_var (pv 8)) pad_nil)) pd_bl) (sds_cons (sd_asg (i := 2) pd_bl nd rfl (.inl rfl)) sds_nil))) sds_nil)))) sds_nil))) (sds_cons (sd_ret (pd_callTy call_tuple_ofF cd_tup (by rfl) g.b_tuple boot_tuple (phd_cons (pd_varS (pv 4)) phd_nil))) sds_nil))) (by decide), fun ds Q h => ?_⟩
  obtain ⟨V, rfl, ok, hQ⟩ := h
  have hn := ok.sd.1.2.1
  have hm := ok.sd.2.1.2.1
  simp [pPl]
  have hc0 : cnt V [] = V.lefts.length * V.rights.length := by
    have e : ∀ a b, Rf [] a b = false := fun a b => rfl
    simp only [cnt, e, Bool.false_eq_true, if_false, sum_c, Nat.mul_one]
  have hnm : V.lefts.length * V.rights.length ≤ 20 * 20 := Nat.mul_le_mul hn hm
  refine ⟨wo_Iv g.C_Places V, ⟨cnt V [] + 1, by omega, [], true, .off, .off, .off, .off, .off, .off, rfl, by simp [hc0], ?_, fun _ => rfl, fun h => by cases h⟩, fun m ε ⟨ks, b, x3, x4, x5, x6, x7, x8, hε, hk, hR, hb1, hb2⟩ => ?_⟩
  · have : R0 [] = fun _ _ => False := by
      funext a b
      simp [R0, Rf, lookD]
    exact ⟨fun l r h => by simp [R0, Rf, lookD] at h, fun l r h => by simp [R0, Rf, lookD] at h⟩
  · subst hε
    simp
    cases b with
    | false =>
      obtain ⟨_, o, rfl, h1, h2, h3⟩ := hb2 rfl
      refine .inl ⟨rfl, _, .inr rfl, hQ o h1 h2 h3⟩
    | true =>
      refine .inr ⟨rfl, ?_⟩
      have hmm := hb1 rfl
      refine ⟨rfl, V, ks, rfl, ok, noD_held _, by omega, by omega, ?_⟩
      refine for_en (ds := V.lefts.map rk) (d := rks V.lefts) (fun P h => ?_) (.inr rfl) (by simp; omega) (wo_Iw g.C_Places V ks)
        ⟨ks, false, List.replicate V.lefts.length none, x5, x6, x7, x8, by simp [oD], by simp, fun l => by simp [oat, List.getElem?_replicate]; split <;> simp, fun l r => by simp, hk, fun _ l hl => by omega, fun h => (by cases h), Nat.le_refl _⟩
        (fun i d ε hd ⟨ks1, b, kp, x5, x6, x7, x8, hε, hkl, hkp, hRf, hkc, hb3, hb4, hle⟩ => ?_) (fun ε ⟨ks1, b, kp, x5, x6, x7, x8, hε, hkl, hkp, hRf, hkc, hb3, hb4, hle⟩ => ?_)
      · simp
        exact h
      · obtain ⟨hi, rfl⟩ := map_rks_get hd
        subst hε
        simp
        refine lc_tup (row V.lefts i) nD (fun r => if decide (i ∈ ChL V r (opR V (R0 ks) r)) = true then some (nD r) else none) (fun P h => ⟨_, rfl, h⟩) (by have := (ok.sd.1.2.2 _ (row_mem hi)).len; omega) (fun r hr R hR => ?_) ?_
        · have hrm := (row_lt ok hr).2
          simp
          rw [fIx_held (by rw [offs_len]; exact hrm), show Dat.int (i : Int) = nD i from rfl, fIn_lst]
          by_cases h : i ∈ ChL V r (opR V (R0 ks) r)
          · exact .inr ⟨by simpa using (offs_row ok hrm).mpr h, by simpa [h] using hR⟩
          · exact .inl ⟨by simpa using fun q => h ((offs_row ok hrm).mp q), by simpa [h] using hR⟩
        · rw [fm_if]
          refine ⟨by rw [pl_lst20]; simp, ?_⟩
          rw [eqD_lnil]
          have hkp' : ∀ l, oat (kp.set i (mine V (R0 ks) i).head?) l = if l < i + 1 then (mine V (R0 ks) l).head? else none := fun l => by
            by_cases e : l = i
            · subst e
              rw [oat_set_same (by omega), if_pos (by omega)]
            · rw [oat_set_ne e, hkp]
              by_cases h : l < i
              · rw [if_pos h, if_pos (by omega)]
              · rw [if_neg h, if_neg (by omega)]
          have fin := fun (E : DE) hE => wo_in (C := g.C_Places) (x8 := x8) (E := E) ok hi hE (kp := kp.set i (mine V (R0 ks) i).head?) (by simpa using hkl) hkp' hRf hkc hb3 hb4 hle (by omega)
          rw [List.map_set] at fin
          cases e : (mine V (R0 ks) i).head? with
          | none =>
            rw [e] at fin
            refine .inl ⟨?_, i, ixN_nat (by omega), fin _ fun ε h => h⟩
            rw [List.head?_eq_none_iff] at e
            show decide ((mine V (R0 ks) i).map nD = []) = true
            rw [e]
            rfl
          | some a =>
            rw [e] at fin
            refine .inr ⟨?_, ?_⟩
            · show decide ((mine V (R0 ks) i).map nD = []) = false
              cases q : mine V (R0 ks) i with
              | nil => rw [q] at e; cases e
              | cons a t => rfl
            · have hlen : 0 < (mine V (R0 ks) i).length := by
                cases q : mine V (R0 ks) i with
                | nil => rw [q] at e; cases e
                | cons a t => simp
              have ha : at0 (mine V (R0 ks) i) 0 = a := by
                cases q : mine V (R0 ks) i with
                | nil => rw [q] at e; cases e
                | cons b t => rw [q] at e; cases e; rfl
              refine Eq.mpr (fIx_lst (r := mine V (R0 ks) i) (a := 0) hlen) ?_
              rw [ha]
              exact ⟨i, ixN_nat (by omega), fin _ fun ε h => h⟩
      · subst hε
        rw [List.length_map] at hkp hRf hb3
        have ht : ∀ l r, R0 ks1 l r ↔ R0 ks l r ∨ r ∈ (mine V (R0 ks) l).tail := fun l r => by
          rw [hRf]
          constructor
          · rintro (h | ⟨_, h⟩)
            · exact .inl h
            · exact .inr h
          · rintro (h | h)
            · exact .inl h
            · exact .inr ⟨(row_lt ok (opR_iff.mp (Ch_in ((mem_mine ok).mp (List.mem_of_mem_tail h))).2).2.1).1, h⟩
        have hR' := hR.turn ok ht
        cases b with
        | true =>
          exact ⟨cnt V ks1 + 1, by have := hb4 rfl; omega, ks1, true, _, _, _, _, _, _, rfl, hkc, hR', fun _ => rfl, fun h => (by cases h)⟩
        | false =>
          refine ⟨0, by omega, ks1, false, _, _, _, _, _, _, rfl, hkc, hR', fun h => (by cases h), fun _ => ⟨rfl, kp, rfl, ?_⟩⟩
          refine hR.done ok (fun l => ?_) hkl fun l hl => by rw [hkp, if_pos hl]
          rcases Nat.lt_or_ge l V.lefts.length with hl | hl
          · exact hb3 rfl l hl
          · have : row V.lefts l = [] := row_out hl
            unfold mine
            rw [this]
            rfl
end
end K90
set_option maxRecDepth 100000
set_option maxHeartbeats 2000000
/-! M5: two sides as places with one seat each; both ways round. -/
namespace K90
open PySem PySem.Spec PyProof.Rows L2 RZ DL M90
def sPL (A B : List (List Nat)) : PL := ⟨A, B, List.replicate B.length 1, List.replicate A.length 0, List.replicate B.length [20, 20, 20, 20]⟩
theorem sPL_ok {A B : List (List Nat)} (h : SidesOk A B) : (sPL A B).Ok where
  sd := h
  se := ⟨by simp [sPL], fun x hx => by have := List.eq_of_mem_replicate hx; omega⟩
  gr := ⟨by simp [sPL], fun x hx => by have := List.eq_of_mem_replicate hx; omega⟩
  li := ⟨by simp [sPL], fun r hr => by
    have := List.eq_of_mem_replicate hr
    subst this
    simp⟩
theorem sides_swap {A B : List (List Nat)} (h : SidesOk A B) : SidesOk B A := by
  obtain ⟨h1, h2, h3⟩ := h
  have hB := h2.2.1
  refine ⟨⟨h2.1, h2.2.1, fun r hr => ⟨(h2.2.2 r hr).1, fun x hx => ?_, by omega⟩⟩, ⟨h1.1, h1.2.1, fun r hr => ⟨(h1.2.2 r hr).1, fun x hx => h3 r hr x hx, hB⟩⟩, fun r hr x hx => (h2.2.2 r hr).2.1 x hx⟩
  have := (h2.2.2 r hr).2.1 x hx
  have := h1.2.1
  omega
theorem grd_one {gp : Nat → Nat} {lim : Nat → Nat} {S : Nat → Bool} {ρ : List Nat} (hl : ∀ l ∈ ρ, 0 < lim (gp l)) {l : Nat} : l ∈ grd gp ρ 1 lim S ↔ l ∈ ρ ∧ S l = true ∧ ∀ y ∈ ρ, S y = true → ixo ρ l ≤ ixo ρ y := by
  induction ρ with
  | nil => simp [grd]
  | cons a ρ ih =>
    unfold grd
    have ha := hl a (by simp)
    by_cases hS : S a = true
    · rw [if_pos (by simp [hS, ha]), show (1 : Nat) - 1 = 0 from rfl, grd_zero]
      constructor
      · intro h
        have := List.mem_singleton.mp h
        subst this
        refine ⟨by simp, hS, fun y _ _ => ?_⟩
        simp [ixo, List.idxOf_cons]
      · rintro ⟨h1, h2, h3⟩
        have := h3 a (by simp) hS
        have h0 : ixo (a :: ρ) a = 0 := by simp [ixo, List.idxOf_cons]
        by_cases e : a = l
        · simp [e]
        · have : ixo (a :: ρ) l = ixo ρ l + 1 := by simp [ixo, List.idxOf_cons, beq_eq_false_iff_ne.mpr e]
          omega
    · rw [if_neg (by simp [hS]), ih fun l h => hl l (by simp [h])]
      have sh : ∀ y, S y = true → ixo (a :: ρ) y = ixo ρ y + 1 := fun y hy => by
        have e : a ≠ y := fun e => hS (e ▸ hy)
        simp [ixo, List.idxOf_cons, beq_eq_false_iff_ne.mpr e]
      constructor
      · rintro ⟨h1, h2, h3⟩
        refine ⟨by simp [h1], h2, fun y hy hs => ?_⟩
        rw [sh l h2, sh y hs]
        rcases List.mem_cons.mp hy with e | hy
        · subst e; exact (hS hs).elim
        · have := h3 y hy hs; omega
      · rintro ⟨h1, h2, h3⟩
        refine ⟨?_, h2, fun y hy hs => ?_⟩
        · rcases List.mem_cons.mp h1 with e | h1
          · subst e; exact (hS h2).elim
          · exact h1
        · have := h3 y (by simp [hy]) hs
          rw [sh l h2, sh y hs] at this
          omega
section
variable {A B : List (List Nat)}
theorem ChL_one {r l : Nat} {S : Nat → Bool} (h : SidesOk A B) : l ∈ ChL (sPL A B) r S ↔ l ∈ row B r ∧ S l = true ∧ ∀ y ∈ row B r, S y = true → ixo (row B r) l ≤ ixo (row B r) y := by
  rcases Nat.lt_or_ge r B.length with hr | hr
  · have e1 : at0 (sPL A B).seats r = 1 := by simp [sPL, at0, hr]
    have e2 : row (sPL A B).limits r = [20, 20, 20, 20] := by simp [sPL, row, hr]
    show l ∈ grd (at0 (sPL A B).groups) (row B r) (at0 (sPL A B).seats r) (at0 (row (sPL A B).limits r)) S ↔ _
    rw [e1, e2]
    refine grd_one fun x hx => ?_
    have hx := ((h.2.1.2.2 _ (row_mem hr)).2.1 x hx)
    have e3 : at0 (sPL A B).groups x = 0 := by simp [sPL, at0, hx]
    rw [e3]
    decide
  · have e : row B r = [] := row_out hr
    show l ∈ grd (at0 (sPL A B).groups) (row B r) (at0 (sPL A B).seats r) (at0 (row (sPL A B).limits r)) S ↔ _
    rw [e]
    simp [grd]
theorem ixo_inj {xs : List Nat} {a b : Nat} (ha : a ∈ xs) (h : ixo xs a = ixo xs b) : a = b := by
  have h1 := get_ixo ha
  by_cases hb : b ∈ xs
  · have h2 := get_ixo hb
    rw [h, h2] at h1
    exact (Option.some.inj h1).symm
  · rw [h, ixo_out hb] at h1
    simp at h1
theorem stab_one {ν : Nat → Option Nat} (h : SidesOk A B) (st : StabP (sPL A B) ν) :
    (∀ l r, ν l = some r → l < A.length ∧ r ∈ row A l ∧ l ∈ row B r ∧ ∀ y, ν y = some r → y = l) ∧ (∀ l r, l ∈ row B r → r ∈ row A l → abB (row A l) r (ν l) = true → ∃ y, ν y = some r ∧ ixo (row B r) y < ixo (row B r) l) := by
  have one : ∀ l r, ν l = some r → l ∈ row B r ∧ ∀ y ∈ row B r, ν y = some r → ixo (row B r) l ≤ ixo (row B r) y := fun l r hl => by
    obtain ⟨h1, h2, h3⟩ := st.ir l r hl
    rw [ChL_one h] at h3
    exact ⟨h3.1, fun y hy hyr => h3.2.2 y hy (by simpa using hyr)⟩
  refine ⟨fun l r hl => ?_, fun l r h1 h2 h3 => ?_⟩
  · obtain ⟨h1, h2, h3⟩ := st.ir l r hl
    refine ⟨h1, h2, (one l r hl).1, fun y hy => ?_⟩
    have a1 := (one l r hl).2 y (one y r hy).1 hy
    have a2 := (one y r hy).2 l (one l r hl).1 hl
    exact ixo_inj (one y r hy).1 (by omega)
  · have hl : l < A.length := (row_lt (sPL_ok h) (V := sPL A B) h2).1
    have h4 := st.nb l r hl h2 h3
    rw [ChL_one h] at h4
    apply Classical.byContradiction
    intro hn
    refine h4 ⟨h1, by simp, fun y hy hyy => ?_⟩
    have hyy : ν y = some r ∨ y = l := by simpa using hyy
    rcases hyy with q | q
    · apply Classical.byContradiction
      intro q2
      exact hn ⟨y, q, by omega⟩
    · subst q; exact Nat.le_refl _
theorem stab_swap {ν μ : Nat → Option Nat} (h : SidesOk A B) (hi : ∀ l r, ν l = some r ↔ μ r = some l) (st : StabP (sPL A B) ν) : StabP (sPL B A) μ := by
  obtain ⟨s1, s2⟩ := stab_one h st
  refine ⟨fun r l hr => ?_, fun r l hr hl hab hc => ?_⟩
  · obtain ⟨h1, h2, h3, h4⟩ := s1 l r ((hi l r).mpr hr)
    refine ⟨(row_lt (sPL_ok h) (V := sPL A B) h2).2, h3, (ChL_one (sides_swap h)).mpr ⟨h2, by simpa using hr, fun s hs hsl => ?_⟩⟩
    have hsl : μ s = some l := by simpa using hsl
    have : s = r := by
      have q1 := (hi l s).mpr hsl
      rw [(hi l r).mpr hr] at q1
      exact (Option.some.inj q1).symm
    subst this
    exact Nat.le_refl _
  · have hab : abB (row B r) l (μ r) = true := hab
    have hl : l ∈ row B r := hl
    rw [ChL_one (sides_swap h)] at hc
    obtain ⟨c1, c2, c3⟩ := hc
    have hab2 : abB (row A l) r (ν l) = true := by
      cases e : ν l with
      | none => rfl
      | some s =>
        show decide (ixo (row A l) r < ixo (row A l) s) = true
        rw [decide_eq_true_eq]
        have hs := s1 l s e
        have := c3 s hs.2.1 (by simpa using .inl ((hi l s).mp e))
        have hne : r ≠ s := fun q => by
          subst q
          rw [(hi l r).mp e] at hab
          simp [abB] at hab
        rcases Nat.lt_or_ge (ixo (row A l) r) (ixo (row A l) s) with q | q
        · exact q
        · exact (hne (ixo_inj c1 (by omega))).elim
    obtain ⟨y, y1, y2⟩ := s2 l r hl c1 hab2
    rw [(hi y r).mp y1] at hab
    have hab : decide (ixo (row B r) l < ixo (row B r) y) = true := hab
    rw [decide_eq_true_eq] at hab
    omega
/-- the other way round, as a function -/
def inv (n : Nat) (ν : Nat → Option Nat) (r : Nat) : Option Nat := (List.range n).find? fun l => decide (ν l = some r)
theorem inv_iff {n : Nat} {ν : Nat → Option Nat} (h1 : ∀ l r, ν l = some r → l < n) (h2 : ∀ l y r, ν l = some r → ν y = some r → y = l) (l r : Nat) : ν l = some r ↔ inv n ν r = some l := by
  unfold inv
  constructor
  · intro h
    cases e : (List.range n).find? fun l => decide (ν l = some r) with
    | none =>
      rw [List.find?_eq_none] at e
      have := e l (List.mem_range.mpr (h1 l r h))
      simp [h] at this
    | some y =>
      have := List.find?_some e
      rw [h2 l y r h (by simpa using this)]
  · intro h
    have := List.find?_some h
    simpa using this
/-- the rights' best is the lefts' worst -/
theorem worst_swap {o' h : List (Option Nat)} (hs : SidesOk A B) (st : StabP (sPL A B) (oat h)) (hi : ∀ l r, oat h l = some r ↔ oat o' r = some l) (hb : BestP (sPL B A) o') : WorstP (sPL A B) h := fun ν sν l r hl => by
  obtain ⟨s1, s2⟩ := stab_one hs sν
  obtain ⟨t1, t2⟩ := stab_one hs st
  apply Classical.byContradiction
  intro hn
  have hab : abB (row A l) r (ν l) = true := by
    cases e : ν l with
    | none => rfl
    | some s =>
      show decide (ixo (row A l) r < ixo (row A l) s) = true
      rw [decide_eq_true_eq]
      apply Classical.byContradiction
      intro q
      exact hn ⟨s, e, by show ixo (row A l) s ≤ ixo (row A l) r; omega⟩
  obtain ⟨a1, a2, a3, a4⟩ := t1 l r hl
  obtain ⟨y, y1, y2⟩ := s2 l r a3 a2 hab
  have hinv := inv_iff (n := A.length) (ν := ν) (fun l r q => (s1 l r q).1) fun l y r q1 q2 => (s1 l r q1).2.2.2 y q2
  have sμ : StabP (sPL B A) (inv A.length ν) := stab_swap hs hinv sν
  obtain ⟨l', e1, e2⟩ := hb _ (core_of (sPL_ok (sides_swap hs)) sμ) r y (row_lt (sPL_ok hs) (V := sPL A B) a2).2 ((hinv y r).mp y1) (s1 y r y1).2.2.1
  rw [(hi l r).mp hl] at e1
  cases e1
  have e2 : ixo (row B r) l ≤ ixo (row B r) y := e2
  omega
end
end K90
set_option maxRecDepth 100000
set_option maxHeartbeats 2000000
/-! M6: one asks one. -/
namespace K90
open PySem PySem.Spec PyProof.Rows L2 RZ DL M90
theorem asc_one {n l : Nat} (h : l < n) : asc n (fun x => decide (x = l)) = [l] := by
  unfold asc
  induction n with
  | zero => omega
  | succ n ih =>
    rw [List.range_succ, List.filter_append]
    by_cases e : l = n
    · subst e
      have : (List.range l).filter (fun x => decide (x = l)) = [] := by
        rw [List.filter_eq_nil_iff]
        intro x hx
        have := List.mem_range.mp hx
        simp
        omega
      rw [this]
      simp
    · rw [ih (by omega)]
      have : ¬ n = l := fun q => e q.symm
      simp [this]
theorem asc_none {n : Nat} {p : Nat → Bool} (h : ∀ x, p x = false) : asc n p = [] := by
  unfold asc
  rw [List.filter_eq_nil_iff]
  intro x _
  simp [h x]
variable {A B : List (List Nat)}
theorem one_step (hs : SidesOk A B) {at' : Nat → Nat} {h : List (Option Nat)} {W : List Nat} {l r : Nat} (d : DAI (sPL A B) at' (fun r => (oat h r).toList) (W ++ [l])) (hr : r < B.length) :
    ((l ∈ row B r ∧ abB (row B r) l (oat h r) = true) → takenL (sPL A B) r (setOf ((oat h r).toList ++ [l])) = [l] ∧ ((oat h r).toList ++ [l]).filter (fun x => !decide (x ∈ takenL (sPL A B) r (setOf ((oat h r).toList ++ [l])))) = (oat h r).toList) ∧
    (¬ (l ∈ row B r ∧ abB (row B r) l (oat h r) = true) → takenL (sPL A B) r (setOf ((oat h r).toList ++ [l])) = (oat h r).toList ∧ ((oat h r).toList ++ [l]).filter (fun x => !decide (x ∈ takenL (sPL A B) r (setOf ((oat h r).toList ++ [l])))) = [l]) := by
  have hl : l < A.length := d.wlt l (by simp)
  have hne : ∀ x, oat h r = some x → x ≠ l ∧ x ∈ row B r ∧ x < A.length := fun x hx => by
    have hm : x ∈ (oat h r).toList := by simp [hx]
    obtain ⟨q1, q2, _⟩ := d.hat r x hm
    refine ⟨fun e => q2 (by simp [e]), ?_, q1⟩
    exact (Ch_in ((d.fix r hr x).mp hm)).1
  have eq : ∀ p : Nat → Bool, (∀ x, x ∈ ChL (sPL A B) r (setOf ((oat h r).toList ++ [l])) ↔ p x = true) → takenL (sPL A B) r (setOf ((oat h r).toList ++ [l])) = asc A.length p := fun p hp => by
    unfold takenL asc
    apply List.filter_congr
    intro x _
    rw [Bool.eq_iff_iff, decide_eq_true_eq]
    exact hp x
  constructor
  · rintro ⟨h1, h2⟩
    have e1 : takenL (sPL A B) r (setOf ((oat h r).toList ++ [l])) = [l] := by
      rw [eq (fun x => decide (x = l)) fun x => ?_, asc_one hl]
      rw [ChL_one hs, decide_eq_true_eq, setOf_iff]
      constructor
      · rintro ⟨g1, g2, g3⟩
        rcases List.mem_append.mp g2 with g2 | g2
        · have hx : oat h r = some x := by
            cases e : oat h r with
            | none => rw [e] at g2; simp at g2
            | some y => rw [e] at g2; simp at g2; rw [g2]
          rw [hx] at h2
          have h2 : decide (ixo (row B r) l < ixo (row B r) x) = true := h2
          rw [decide_eq_true_eq] at h2
          have := g3 l h1 (by simp)
          omega
        · exact List.mem_singleton.mp g2
      · rintro rfl
        refine ⟨h1, by simp, fun y hy hyy => ?_⟩
        have hyy : y ∈ (oat h r).toList ++ [x] := by simpa using hyy
        rcases List.mem_append.mp hyy with q | q
        · cases e : oat h r with
          | none => rw [e] at q; simp at q
          | some z =>
            rw [e] at q h2
            simp at q
            subst q
            have h2 : decide (ixo (row B r) x < ixo (row B r) y) = true := h2
            rw [decide_eq_true_eq] at h2
            omega
        · rw [List.mem_singleton.mp q]
          exact Nat.le_refl _
    refine ⟨e1, ?_⟩
    rw [e1, List.filter_append]
    cases e : oat h r with
    | none => simp
    | some z =>
      have := (hne z e).1
      simp [this]
  · intro hn
    have e1 : takenL (sPL A B) r (setOf ((oat h r).toList ++ [l])) = (oat h r).toList := by
      cases e : oat h r with
      | none =>
        rw [e] at hn
        have hlr : l ∉ row B r := fun q => hn ⟨q, rfl⟩
        rw [show (setOf ((none : Option Nat).toList ++ [l])) = setOf ((oat h r).toList ++ [l]) by rw [e]]
        rw [eq (fun _ => false) fun x => ?_, asc_none fun _ => rfl]
        · rfl
        · rw [ChL_one hs, setOf_iff, e]
          simp
          rintro q1 rfl
          exact (hlr q1).elim
      | some z =>
        obtain ⟨z1, z2, z3⟩ := hne z e
        rw [show (setOf ((some z).toList ++ [l])) = setOf ((oat h r).toList ++ [l]) by rw [e]]
        rw [eq (fun x => decide (x = z)) fun x => ?_, asc_one z3]
        · rfl
        · rw [ChL_one hs, decide_eq_true_eq, setOf_iff, e]
          have hlz : l ∈ row B r → ixo (row B r) z ≤ ixo (row B r) l := fun q => by
            apply Classical.byContradiction
            intro q2
            refine hn ⟨q, ?_⟩
            rw [e]
            show decide (ixo (row B r) l < ixo (row B r) z) = true
            rw [decide_eq_true_eq]
            omega
          constructor
          · rintro ⟨g1, g2, g3⟩
            rcases List.mem_append.mp g2 with g2 | g2
            · simpa using g2
            · have := List.mem_singleton.mp g2
              subst this
              have a1 := g3 z z2 (by simp)
              exact ixo_inj g1 (by have := hlz g1; omega)
          · rintro rfl
            refine ⟨z2, by simp, fun y hy hyy => ?_⟩
            have hyy : y ∈ (some x).toList ++ [l] := by simpa using hyy
            rcases List.mem_append.mp hyy with q | q
            · have : y = x := by simpa using q
              rw [this]
              exact Nat.le_refl _
            · have := List.mem_singleton.mp q
              subst this
              exact hlz hy
    refine ⟨e1, ?_⟩
    rw [e1, List.filter_append]
    cases e : oat h r with
    | none => simp
    | some z =>
      have := (hne z e).1
      simp [Ne.symm this]
end K90
set_option maxRecDepth 100000
set_option maxHeartbeats 4000000
namespace K90
open PySem PySem.Spec PyProof.Rows L2 RZ DL
open C8 (call_isC pe_gc InsC)
open M90
def od_Iv (A B : List (List Nat)) (m : Nat) (ε : Ev) : Prop := ∃ (h : List (Option Nat)) (ats W : List Nat) (x5 x6 x7 : Sl), ε = [Sl.val (rks A), Sl.val (rks B), Sl.own (.lst (h.map oD)), Sl.own (.lst (ats.map nD)), Sl.own (.lst (W.map nD)), x5, x6, x7] ∧
  h.length = B.length ∧ ats.length = A.length ∧ DAI (sPL A B) (at0 ats) (fun r => (oat h r).toList) W ∧ m = tot (sPL A B) ats * 21 + W.length
theorem fIx_olst {h : List (Option Nat)} {a : Nat} {P : Dat → Prop} (hl : a < h.length) : fIx (.lst (h.map oD)) (nD a) P = P (oD (oat h a)) := by
  have : atI (h.map oD) ((a : Nat) : Int) = some (oD (oat h a)) := by
    apply atI_nat
    simp [hl, oat]
  show (∃ d, atI (h.map oD) ((a : Nat) : Int) = some d ∧ P d) = _
  rw [this, ex1]
theorem ats_fun {ats : List Nat} {l : Nat} (hal : l < ats.length) : (fun x => if x = l then at0 ats l + 1 else at0 ats x) = at0 (ats.set l (at0 ats l + 1)) := by
  funext x
  by_cases e : x = l
  · subst e; rw [if_pos rfl, at0_set_same hal]
  · rw [if_neg e, at0_set_ne e]
def S_offered : List Dat → (Dat → Prop) → Prop := fun ds P => ∃ (A B : List (List Nat)), ds = [rks A, rks B] ∧ SidesOk A B ∧ ∀ (h : List (Option Nat)) (at' : Nat → Nat), h.length = B.length → DAI (sPL A B) at' (fun r => (oat h r).toList) [] → P (.lst (h.map oD))
theorem len_offered (ds : List Dat) (Q : Dat → Prop) (h : S_offered ds Q) : ds.length = P_offered.length := by
  obtain ⟨A, B, rfl, _⟩ := h; rfl
section
variable {P : Program} {w : World} {K : PySem.W.Frag} {mg : Str → Option Value} {base : Heap}
theorem ok_offered (g : Fx K mg) : FnOk P w K mg base L2.CX0 2 g.f_offered g.fd_offered P_offered (spF 0 S_offered) := by
  refine okD g.F_offered sc_offered len_offered (fun cdv A outer s H E hr => ?_)
  have nd := (sc_offered).nd
  refine ⟨_, SDs.cost (sds_cons (sd_par3 (ms := []) (i := 2) (j := 3) (l := 4) (pmd_cons (m := .fr) (pd_op op_rep od_repL ((pd_lst (pad_cons pd_non pad_nil))).toSh ((pd_callB call_lenA cd_len (by rfl) g.b_len boot_len (phd_cons ((pd_var (pv 1))).toSh phd_nil))).toSh) (pmd_cons (m := .fr) (pd_op op_rep od_repL ((pd_lst (pad_cons pd_int pad_nil))).toSh ((pd_callB call_lenA cd_len (by rfl) g.b_len boot_len (phd_cons ((pd_var (pv 0))).toSh phd_nil))).toSh) (pmd_cons (m := .fr) (pd_lrange1 rfl (by rfl) g.b_list (by rfl) g.b_range (pd_callB call_lenA cd_len (by rfl) g.b_len boot_len (phd_cons ((pd_var (pv 0))).toSh phd_nil))) pmd_nil))) rfl rfl nd rfl rfl rfl (by decide) (by decide) (by decide) rfl rfl rfl (by rfl)) (sds_cons (sd_while 20000 PassesOwn.never (ptd_cmp (op_neD (ru0 hr)) od_ne (pd_varS (pv 4)) ((pd_lst pad_nil)).toSh (nomark _)) (sds_cons (sd_pop (pv 4) (i := 5) nd rfl (.inl rfl)) (sds_cons (sd_if (ptd_cmp (op_eqD (ru0 hr)) od_eq ((pd_ix (ix_all (ru1 hr)) od_ix (pd_varS (pv 3)) ((pd_var (pv 5))).toSh (fun _ _ => rfl))).toSh ((pd_callB call_lenA cd_len (by rfl) g.b_len boot_len (phd_cons ((pd_ix (ix_all (ru1 hr)) od_ix ((pd_var (pv 0))).toSh ((pd_var (pv 5))).toSh (fun _ _ => rfl))).toSh phd_nil))).toSh (nomark _)) (sds_cons sd_cont sds_nil) sds_nil) (sds_cons (sd_asg (i := 6) (pd_ix (ix_all (ru1 hr)) od_ix ((pd_ix (ix_all (ru1 hr)) od_ix ((pd_var (pv 0))).toSh ((pd_var (pv 5))).toSh (fun _ _ => rfl))).toSh ((pd_ix (ix_all (ru1 hr)) od_ix (pd_varS (pv 3)) ((pd_var (pv 5))).toSh (fun _ _ => rfl))).toSh (fun _ _ => rfl)) nd rfl (.inl rfl)) (sds_cons (sd_augL (pv 3) (pd_var (pv 5)) pd_int) (sds_cons (sd_asg (i := 7) (pd_ix (ix_all (ru1 hr)) od_ix (pd_varS (pv 2)) ((pd_var (pv 6))).toSh (fun _ _ => rfl)) nd rfl (.inl rfl)) (sds_cons (sd_if ((pwd_and (ptd_cmp (op_inA (ru hr)) od_in ((pd_var (pv 5))).toSh ((pd_ix (ix_all (ru1 hr)) od_ix ((pd_var (pv 1))).toSh ((pd_var (pv 6))).toSh (fun _ _ => rfl))).toSh (by with_unfolding_all rfl)) (pwd_and1 (ptd_val (pd_call (ok_is_above g) (hr.mono (by decide)) (by rfl) g.g_is_above g.F_is_above.kp (b_is_above g) (pad_cons (pd_ix (ix_all (ru1 hr)) od_ix ((pd_var (pv 1))).toSh ((pd_var (pv 6))).toSh (fun _ _ => rfl)) (pad_cons (pd_var (pv 5)) (pad_cons (pd_var (pv 7)) pad_nil)))))))).pt (sds_cons (sd_setL (pv 2) (pd_var (pv 6)) (pd_var (pv 5))) (sds_cons (sd_ext (pv 4) (pd_if (ptd_cmp op_isnA od_isn ((pd_var (pv 7))).toSh (pd_non).toSh (nomark _)) ((pd_lst (pad_cons (pd_var (pv 7)) pad_nil))).frz ((pd_lst pad_nil)).frz)) sds_nil)) (sds_cons (sd_app (pv 4) (pd_var (pv 5))) sds_nil)) sds_nil))))))) (sds_cons (((sd_ret (pd_var (pv 2)))).frz 2) sds_nil))) (by decide), fun ds Q h => ?_⟩
  obtain ⟨A, B, rfl, hs, hQ⟩ := h
  have ok := sPL_ok hs
  have hn : A.length ≤ 20 := hs.1.2.1
  have hm : B.length ≤ 20 := hs.2.1.2.1
  simp
  refine ⟨by omega, by omega, by omega, by omega, by omega, ?_⟩
  refine ⟨od_Iv A B, ⟨tot (sPL A B) (List.replicate A.length 0) * 21 + (List.range A.length).length, ?_, List.replicate B.length none, List.replicate A.length 0, List.range A.length, .off, .off, .off, ?_, by simp, by simp, ?_, rfl⟩, fun m ε ⟨h, ats, W, x5, x6, x7, hε, hl1, hl2, hD, hm2⟩ => ?_⟩
  · have : tot (sPL A B) (List.replicate A.length 0) ≤ A.length * 20 := sum_le fun x hx => by
      have := (ok.sd.1.2.2 _ (row_mem hx)).len
      omega
    have e2 : A.length * 20 ≤ 20 * 20 := Nat.mul_le_mul_right _ hn
    simp
    omega
  · simp [oD, rng0, nD]
  · have e1 : at0 (List.replicate A.length 0) = fun _ => 0 := by
      funext x
      simp [at0, List.getElem?_replicate]
      split <;> rfl
    have e2 : (fun r => (oat (List.replicate B.length none) r).toList) = fun _ => ([] : List Nat) := by
      funext x
      simp [oat, List.getElem?_replicate]
      split <;> rfl
    rw [e1, e2]
    exact DAI.init (sPL A B)
  · subst hε
    simp
    rw [eqD_lnil]
    rcases List.eq_nil_or_concat W with rfl | ⟨W', l, rfl⟩
    · exact .inl ⟨rfl, hQ h _ hl1 hD⟩
    · rw [List.concat_eq_append] at hD hm2 ⊢
      have hlL : l < A.length := hD.wlt l (by simp)
      have hal : l < ats.length := by omega
      have hW := nodup_lt hD.wnd hD.wlt
      refine .inr ⟨by simp, W'.map nD, nD l, by simp, ?_⟩
      rw [fIx_lst hal, fIx_rks hlL]
      rw [fLen_rk]
      refine ⟨pl_nD, pl_int, ?_⟩
      by_cases he : at0 ats l = (row A l).length
      · refine .inr ⟨?_, tot (sPL A B) ats * 21 + W'.length, ?_, h, ats, W', _, _, _, rfl, hl1, hl2, hD.drop he, rfl⟩
        · rw [he]; exact eqD_ii.trans (by simp)
        · simp at hm2; omega
      · have hlt : at0 ats l < (row A l).length := by have := hD.atl l; exact Nat.lt_of_le_of_ne this he
        have hr0 : (row A l)[at0 ats l]? = some (at0 (row A l) (at0 ats l)) := at0_get hlt
        generalize hr' : at0 (row A l) (at0 ats l) = r at *
        have hrm : r < B.length := (row_lt ok (V := sPL A B) (List.mem_of_getElem? hr0)).2
        have hrs : r < h.length := by omega
        refine .inl ⟨?_, ?_⟩
        · show eqD (.int _) (.int _) = false
          rw [eqD_ii]
          simp
          omega
        rw [fIx_rks hlL]
        rw [fIx_lst hal, fIx_rk hlt, hr']
        refine ⟨l, rfl, (at0 ats l : Int), ⟨_, at0_get hal, rfl⟩, ?_⟩
        rw [fIx_olst hrs, fIx_rks hrm, fIn_rk]
        have hset2 : (ats.map nD).set l (.int ((at0 ats l : Int) + 1)) = (ats.set l (at0 ats l + 1)).map nD := by rw [List.map_set]; rfl
        rw [hset2]
        have hD' := hD.ask ok hr0
        obtain ⟨os1, os2⟩ := one_step hs hD hrm
        rw [ats_fun hal] at hD'
        have hts := tot_set (V := sPL A B) hlL hal hlt
        have hW2 : W'.length < 20 := by
          have h0 : (W' ++ [l]).length ≤ A.length := hW
          simp at h0
          omega
        have rej : ¬ (l ∈ row B r ∧ abB (row B r) l (oat h r) = true) → (W'.map nD).length < 100000 ∧ ∃ m', m' < m ∧ od_Iv A B m' [Sl.val (rks A), Sl.val (rks B), Sl.own (Dat.lst (h.map oD)), Sl.own (Dat.lst ((ats.set l (at0 ats l + 1)).map nD)), Sl.own (Dat.lst (W'.map nD ++ [nD l])), Sl.val (nD l), Sl.val (nD r), Sl.val (oD (oat h r))] := fun hn => by
          obtain ⟨e1, e2⟩ := os2 hn
          rw [e1] at e2 hD'
          rw [e2] at hD'
          have e3 : (fun s => if s = r then (oat h r).toList else (oat h s).toList) = fun s => (oat h s).toList := by
            funext s
            by_cases e : s = r
            · subst e; rw [if_pos rfl]
            · rw [if_neg e]
          rw [e3] at hD'
          refine ⟨by simp; omega, tot (sPL A B) (ats.set l (at0 ats l + 1)) * 21 + (W' ++ [l]).length, ?_, h, _, W' ++ [l], Sl.val (nD l), Sl.val (nD r), Sl.val (oD (oat h r)), by rw [List.map_append]; rfl, hl1, by simpa using hl2, hD', rfl⟩
          omega
        by_cases h1 : l ∈ row B r
        · refine .inr ⟨by simpa using h1, ?_⟩
          rw [fIx_rks hrm]
          refine ⟨row B r, l, oat h r, rfl, h1, fun b hb => ?_, ?_⟩
          · have hm : b ∈ (oat h r).toList := by simp [hb]
            exact (Ch_in ((hD.fix r hrm b).mp hm)).1
          by_cases h2 : abB (row B r) l (oat h r) = true
          · refine .inr ⟨by rw [h2], r, rfl, r, ixN_nat hrs, ?_⟩
            obtain ⟨e1, e2⟩ := os1 ⟨h1, h2⟩
            rw [e1] at e2 hD'
            rw [e2] at hD'
            have e3 : (fun s => if s = r then [l] else (oat h s).toList) = fun s => (oat (h.set r (some l)) s).toList := by
              funext s
              by_cases e : s = r
              · subst e; rw [if_pos rfl, oat_set_same hrs]; rfl
              · rw [if_neg e, oat_set_ne e]
            rw [e3] at hD'
            have hset3 : (h.map oD).set r (nD l) = (h.set r (some l)).map oD := by rw [List.map_set]; rfl
            rw [hset3]
            cases e : oat h r with
            | none =>
              rw [e] at hD'
              have hD' : DAI (sPL A B) (at0 (ats.set l (at0 ats l + 1))) (fun s => (oat (h.set r (some l)) s).toList) (W' ++ []) := hD'
              rw [List.append_nil] at hD'
              refine .inl ⟨rfl, by simp; omega, tot (sPL A B) (ats.set l (at0 ats l + 1)) * 21 + W'.length, ?_, _, _, W', _, _, _, rfl, by simpa using hl1, by simpa using hl2, hD', rfl⟩
              simp at hm2
              omega
            | some z =>
              rw [e] at hD'
              have hD' : DAI (sPL A B) (at0 (ats.set l (at0 ats l + 1))) (fun s => (oat (h.set r (some l)) s).toList) (W' ++ [z]) := hD'
              refine .inr ⟨rfl, by simp; omega, tot (sPL A B) (ats.set l (at0 ats l + 1)) * 21 + (W' ++ [z]).length, ?_, _, _, W' ++ [z], Sl.val (nD l), Sl.val (nD r), Sl.val (oD (some z)), by rw [List.map_append]; rfl, by simpa using hl1, by simpa using hl2, hD', rfl⟩
              simp at hm2 ⊢
              omega
          · exact .inl ⟨by simpa using h2, rej fun q => h2 q.2⟩
        · exact .inl ⟨by simpa using h1, rej fun q => h1 q.1⟩
end
end K90
set_option maxRecDepth 100000
set_option maxHeartbeats 2000000
/-! M7: outcomes from stable functions; the rights' side. -/
namespace K90
open PySem PySem.Spec PyProof.Rows L2 RZ DL M90
theorem out_of {V : PL} (ok : V.Ok) {o : List (Option Nat)} (ho : o.length = V.lefts.length) (st : StabP V (oat o)) : IsOut V o ∧ ∀ l r, ¬ Blk V o l r := by
  have hm : ∀ r, (fun y => decide (y ∈ memb o r)) = fun y => decide (oat o y = some r) := fun r => by
    funext y
    exact decide_eq_decide.mpr mem_memb
  refine ⟨⟨ho, fun l r h hl => ?_, fun r hr => ?_⟩, fun l r hB => ?_⟩
  · obtain ⟨h1, h2, h3⟩ := st.ir l r h
    exact ⟨(row_lt ok h2).2, fitB_iff.mpr ⟨h2, (Ch_in h3).1⟩⟩
  · rw [hm]
    unfold takenL memb asc
    rw [ho]
    apply List.filter_congr
    intro x hx
    apply decide_eq_decide.mpr
    exact ⟨fun h => by simpa using (Ch_in h).2, fun h => (st.ir x r h).2.2⟩
  · obtain ⟨h1, h2, h3, h4, h5, h6⟩ := hB
    refine st.nb l r h1 h2 h5 ?_
    have e : (fun y => decide (y ∈ memb o r ++ [l])) = fun y => decide (oat o y = some r ∨ y = l) := by
      funext y
      apply decide_eq_decide.mpr
      rw [List.mem_append, mem_memb, List.mem_singleton]
    rw [← e]
    exact h6
theorem oat_range {n : Nat} {f : Nat → Option Nat} {i : Nat} (h : i < n) : oat ((List.range n).map f) i = f i := by simp [oat, h]
theorem oat_out {o : List (Option Nat)} {i : Nat} (h : o.length ≤ i) : oat o i = none := by simp [oat, h]
theorem rights_done {A B : List (List Nat)} (hs : SidesOk A B) {h : List (Option Nat)} {at' : Nat → Nat} (hl : h.length = A.length) (d : DAI (sPL B A) at' (fun l => (oat h l).toList) []) : IsOut (sPL A B) h ∧ (∀ l r, ¬ Blk (sPL A B) h l r) ∧ WorstP (sPL A B) h := by
  have hs' := sides_swap hs
  have lt : ∀ l r, oat h l = some r → l < A.length := fun l r q => by
    rcases Nat.lt_or_ge l A.length with w | w
    · exact w
    · rw [oat_out (by omega)] at q; cases q
  have inj : ∀ l y r, oat h l = some r → oat h y = some r → y = l := fun l y r q1 q2 => by
    have a1 := (d.hat l r (by simp [q1])).2.2.2
    have a2 := (d.hat y r (by simp [q2])).2.2.2
    rw [a1] at a2
    exact (Option.some.inj a2).symm
  have ltr : ∀ l r, oat h l = some r → r < B.length := fun l r q => (d.hat l r (by simp [q])).1
  have hi0 := inv_iff (n := A.length) (ν := oat h) lt inj
  have hi : ∀ l r, oat h l = some r ↔ oat ((List.range B.length).map (inv A.length (oat h))) r = some l := fun l r => by
    rcases Nat.lt_or_ge r B.length with w | w
    · rw [oat_range w]
      exact hi0 l r
    · have e0 : oat ((List.range B.length).map (inv A.length (oat h))) r = none := oat_out (by simpa using w)
      rw [e0]
      constructor
      · intro q
        have := ltr l r q
        omega
      · intro q; cases q
  obtain ⟨i1, i2, i3⟩ := d.done (sPL_ok hs') (o := (List.range B.length).map (inv A.length (oat h))) (by simp [sPL]) fun r l => by
    rw [← hi]
    simp
  have st : StabP (sPL A B) (oat h) := stab_swap hs' (fun r l => (hi l r).symm) (stab_of (sPL_ok hs') i1 i2)
  obtain ⟨j1, j2⟩ := out_of (sPL_ok hs) hl st
  exact ⟨j1, j2, worst_swap hs st hi i3⟩
end K90
set_option maxRecDepth 100000
set_option maxHeartbeats 4000000
namespace K90
open PySem PySem.Spec PyProof.Rows L2 RZ DL
open C8 (call_isC pe_gc InsC)
open M90
def lb_Iv (C : Addr) (A B : List (List Nat)) (h : List (Option Nat)) (i : Nat) (ε : Ev) : Prop := ∃ (f : List (Option Nat)) (x2 x3 : Sl), ε = [Sl.val (pSides C A B), Sl.own (.lst (f.map oD)), x2, x3] ∧ f.length = A.length ∧ ∀ l r, oat f l = some r ↔ r < i ∧ oat h r = some l
theorem map_oD_get {h : List (Option Nat)} {i : Nat} {d : Dat} (e : (h.map oD)[i]? = some d) : i < h.length ∧ d = oD (oat h i) := by
  rw [List.getElem?_map] at e
  cases q : h[i]? with
  | none => rw [q] at e; cases e
  | some r =>
    rw [q] at e
    cases e
    obtain ⟨h1, h2⟩ := List.getElem?_eq_some_iff.mp q
    refine ⟨h1, ?_⟩
    unfold oat
    rw [List.getD_eq_getElem?_getD, q]
    rfl
def S_lefts_best (C : Addr) : List Dat → (Dat → Prop) → Prop := fun ds P => ∃ (A B : List (List Nat)), ds = [pSides C A B] ∧ SidesOk A B ∧ ∀ o, IsOut (sPL A B) o → (∀ l r, ¬ Blk (sPL A B) o l r) → BestP (sPL A B) o → P (outD o)
theorem len_lefts_best {C : Addr} (ds : List Dat) (Q : Dat → Prop) (h : S_lefts_best C ds Q) : ds.length = P_lefts_best.length := by
  obtain ⟨A, B, rfl, _⟩ := h; rfl
section
variable {P : Program} {w : World} {K : PySem.W.Frag} {mg : Str → Option Value} {base : Heap}
theorem ok_lefts_best (g : Fx K mg) : FnOk P w K mg base L2.CX0 3 g.f_lefts_best g.fd_lefts_best P_lefts_best (spF 0 (S_lefts_best g.C_Sides)) := by
  refine okD g.F_lefts_best sc_lefts_best len_lefts_best (fun cdv A outer s H E hr => ?_)
  have nd := (sc_lefts_best).nd
  refine ⟨_, SDs.cost (sds_cons (sd_asgO (i := 1) (pd_op op_rep od_repL ((pd_lst (pad_cons pd_non pad_nil))).toSh ((pd_callB call_lenA cd_len (by rfl) g.b_len boot_len (phd_cons ((pd_fld g.cl_Sides g.na_Sides_lefts (pd_var (pv 0)))).toSh phd_nil))).toSh) nd rfl (.inl rfl)) (sds_cons (sd_for 1024 PassesOwn.never rfl (pid_enum (by rfl) g.b_enumerate (pad_cons (pd_call (ok_offered g) (hr.mono (by decide)) (by rfl) g.g_offered g.F_offered.kp (b_offered g) (pad_cons (pd_fld g.cl_Sides g.na_Sides_lefts (pd_var (pv 0))) (pad_cons (pd_fld g.cl_Sides g.na_Sides_rights (pd_var (pv 0))) pad_nil))) pad_nil)) (pgd_tup (n := 2) rfl (pgsd_cons (pgd_name (i := 2) nd rfl (.inl rfl)) (pgsd_cons (pgd_name (i := 3) nd rfl (.inl rfl)) pgsd_nil))) (sds_cons (sd_if (ptd_cmp op_isnA od_isn ((pd_var (pv 3))).toSh (pd_non).toSh (nomark _)) (sds_cons (sd_setL (pv 1) (pd_var (pv 3)) (pd_var (pv 2))) sds_nil) sds_nil) sds_nil)) (sds_cons (sd_ret (pd_callTy call_tuple_ofF cd_tup (by rfl) g.b_tuple boot_tuple (phd_cons (pd_varS (pv 1)) phd_nil))) sds_nil))) (by decide), fun ds Q h => ?_⟩
  obtain ⟨A, B, rfl, hs, hQ⟩ := h
  have ok := sPL_ok hs
  have hn : A.length ≤ 20 := hs.1.2.1
  have hm : B.length ≤ 20 := hs.2.1.2.1
  simp [pSides]
  refine ⟨by omega, by omega, ?_⟩
  refine ⟨_, rfl, _, _, rfl, lkS_l, _, rfl, _, _, rfl, lkS_r, A, B, rfl, hs, fun h at' hl hD => ?_⟩
  change sFor 1024 (iEn fun _ P => P [.lst (h.map oD)]) _ _ _ _
  refine for_en (ds := h.map oD) (d := .lst (h.map oD)) (fun P h => h) (.inl rfl) (by simp; omega) (lb_Iv g.C_Sides A B h) ⟨List.replicate A.length none, .off, .off, by simp [oD, pSides], by simp, fun l r => by simp [oat, List.getElem?_replicate]; split <;> simp⟩ (fun i d ε hd' ⟨f, x2, x3, hε, hfl, hf⟩ => ?_) (fun ε ⟨f, x2, x3, hε, hfl, hf⟩ => ?_)
  · obtain ⟨hi, rfl⟩ := map_oD_get hd'
    subst hε
    simp
    cases e : oat h i with
    | none =>
      refine .inl ⟨rfl, f, _, _, rfl, hfl, fun l r => (hf l r).trans ⟨fun h => ⟨by omega, h.2⟩, fun h => ⟨?_, h.2⟩⟩⟩
      have : r ≠ i := fun q => by rw [q, e] at h; cases h.2
      omega
    | some l =>
      have hlA : l < A.length := (hD.hat i l (by simp [e])).1
      have hset : (f.map oD).set l (.int (i : Int)) = (f.set l (some i)).map oD := by rw [List.map_set]; rfl
      refine .inr ⟨rfl, (l : Int), rfl, l, ixN_nat (by omega), ?_⟩
      rw [hset]
      refine ⟨f.set l (some i), _, _, rfl, by simpa using hfl, fun l' r => ?_⟩
      by_cases q : l' = l
      · subst q
        rw [oat_set_same (by omega)]
        constructor
        · intro z; cases z; exact ⟨by omega, e⟩
        · rintro ⟨h1, h2⟩
          have a1 := (hD.hat i l' (by simp [e])).2.2.2
          have a2 := (hD.hat r l' (by simp [h2])).2.2.2
          rw [a1] at a2
          exact a2
      · rw [oat_set_ne q, hf l' r]
        constructor
        · rintro ⟨h1, h2⟩; exact ⟨by omega, h2⟩
        · rintro ⟨h1, h2⟩
          refine ⟨?_, h2⟩
          have : r ≠ i := fun z => by
            rw [z, e] at h2
            cases h2
            exact q rfl
          omega
  · subst hε
    simp
    rw [List.length_map] at hf
    have ho : ∀ l r, oat f l = some r ↔ l ∈ (oat h r).toList := fun l r => by
      rw [hf]
      simp
      intro q
      rcases Nat.lt_or_ge r h.length with w | w
      · exact w
      · simp [oat, w] at q
    obtain ⟨h1, h2, h3⟩ := hD.done ok hfl ho
    exact hQ f h1 h2 h3
end
def S_rights_best (C : Addr) : List Dat → (Dat → Prop) → Prop := fun ds P => ∃ (A B : List (List Nat)), ds = [pSides C A B] ∧ SidesOk A B ∧ ∀ o, IsOut (sPL A B) o → (∀ l r, ¬ Blk (sPL A B) o l r) → WorstP (sPL A B) o → P (outD o)
theorem len_rights_best {C : Addr} (ds : List Dat) (Q : Dat → Prop) (h : S_rights_best C ds Q) : ds.length = P_rights_best.length := by
  obtain ⟨A, B, rfl, _⟩ := h; rfl
section
variable {P : Program} {w : World} {K : PySem.W.Frag} {mg : Str → Option Value} {base : Heap}
theorem ok_rights_best (g : Fx K mg) : FnOk P w K mg base L2.CX0 3 g.f_rights_best g.fd_rights_best P_rights_best (spF 0 (S_rights_best g.C_Sides)) := by
  refine okD g.F_rights_best sc_rights_best len_rights_best (fun cdv A outer s H E hr => ?_)
  have nd := (sc_rights_best).nd
  refine ⟨_, SDs.cost (sds_cons (sd_ret (pd_callTy call_tuple_ofF cd_tup (by rfl) g.b_tuple boot_tuple (phd_cons ((pd_call (ok_offered g) (hr.mono (by decide)) (by rfl) g.g_offered g.F_offered.kp (b_offered g) (pad_cons (pd_fld g.cl_Sides g.na_Sides_rights (pd_var (pv 0))) (pad_cons (pd_fld g.cl_Sides g.na_Sides_lefts (pd_var (pv 0))) pad_nil)))).toSh phd_nil))) sds_nil) (by decide), fun ds Q h => ?_⟩
  obtain ⟨A, B, rfl, hs, hQ⟩ := h
  simp [pSides]
  refine ⟨B, A, rfl, sides_swap hs, fun h at' hl hD => ?_⟩
  simp
  obtain ⟨h1, h2, h3⟩ := rights_done hs hl hD
  exact hQ h h1 h2 h3
end
def S_best_for_lefts (C : Addr) := S_lefts_best C
theorem len_best_for_lefts {C : Addr} (ds : List Dat) (Q : Dat → Prop) (h : S_best_for_lefts C ds Q) : ds.length = P_best_for_lefts.length := by
  obtain ⟨A, B, rfl, _⟩ := h; rfl
section
variable {P : Program} {w : World} {K : PySem.W.Frag} {mg : Str → Option Value} {base : Heap}
theorem ok_best_for_lefts (g : Fx K mg) : FnOk P w K mg base L2.CX0 4 g.f_best_for_lefts g.fd_best_for_lefts P_best_for_lefts (spF 0 (S_best_for_lefts g.C_Sides)) := by
  refine okD g.F_best_for_lefts sc_best_for_lefts len_best_for_lefts (fun cdv A outer s H E hr => ?_)
  have nd := (sc_best_for_lefts).nd
  refine ⟨_, SDs.cost (sds_cons (sd_drop (pd_call (ok_check_sides g) (hr.mono (by decide)) (by rfl) g.g_check_sides g.F_check_sides.kp (b_check_sides g) (pad_cons (pd_var (pv 0)) pad_nil))) (sds_cons (sd_ret (pd_call (ok_lefts_best g) (hr.mono (by decide)) (by rfl) g.g_lefts_best g.F_lefts_best.kp (b_lefts_best g) (pad_cons (pd_var (pv 0)) pad_nil))) sds_nil)) (by decide), fun ds Q h => ?_⟩
  obtain ⟨A, B, rfl, hs, hQ⟩ := h
  simp
  exact ⟨_, rfl, A, B, rfl, hs, hQ⟩
end
def S_best_for_rights (C : Addr) := S_rights_best C
theorem len_best_for_rights {C : Addr} (ds : List Dat) (Q : Dat → Prop) (h : S_best_for_rights C ds Q) : ds.length = P_best_for_rights.length := by
  obtain ⟨A, B, rfl, _⟩ := h; rfl
section
variable {P : Program} {w : World} {K : PySem.W.Frag} {mg : Str → Option Value} {base : Heap}
theorem ok_best_for_rights (g : Fx K mg) : FnOk P w K mg base L2.CX0 4 g.f_best_for_rights g.fd_best_for_rights P_best_for_rights (spF 0 (S_best_for_rights g.C_Sides)) := by
  refine okD g.F_best_for_rights sc_best_for_rights len_best_for_rights (fun cdv A outer s H E hr => ?_)
  have nd := (sc_best_for_rights).nd
  refine ⟨_, SDs.cost (sds_cons (sd_drop (pd_call (ok_check_sides g) (hr.mono (by decide)) (by rfl) g.g_check_sides g.F_check_sides.kp (b_check_sides g) (pad_cons (pd_var (pv 0)) pad_nil))) (sds_cons (sd_ret (pd_call (ok_rights_best g) (hr.mono (by decide)) (by rfl) g.g_rights_best g.F_rights_best.kp (b_rights_best g) (pad_cons (pd_var (pv 0)) pad_nil))) sds_nil)) (by decide), fun ds Q h => ?_⟩
  obtain ⟨A, B, rfl, hs, hQ⟩ := h
  simp
  exact ⟨_, rfl, A, B, rfl, hs, hQ⟩
end
def S_best_seats (C : Addr) := S_best_of C
theorem len_best_seats {C : Addr} (ds : List Dat) (Q : Dat → Prop) (h : S_best_seats C ds Q) : ds.length = P_best_seats.length := by
  obtain ⟨A, rfl, _⟩ := h; rfl
section
variable {P : Program} {w : World} {K : PySem.W.Frag} {mg : Str → Option Value} {base : Heap}
theorem ok_best_seats (g : Fx K mg) : FnOk P w K mg base L2.CX0 3 g.f_best_seats g.fd_best_seats P_best_seats (spF 0 (S_best_seats g.C_Places)) := by
  refine okD g.F_best_seats sc_best_seats len_best_seats (fun cdv A outer s H E hr => ?_)
  have nd := (sc_best_seats).nd
  refine ⟨_, SDs.cost (sds_cons (sd_drop (pd_call (ok_check_places g) (hr.mono (by decide)) (by rfl) g.g_check_places g.F_check_places.kp (b_check_places g) (pad_cons (pd_var (pv 0)) pad_nil))) (sds_cons (sd_ret (pd_call (ok_best_of g) (hr.mono (by decide)) (by rfl) g.g_best_of g.F_best_of.kp (b_best_of g) (pad_cons (pd_var (pv 0)) pad_nil))) sds_nil)) (by decide), fun ds Q h => ?_⟩
  obtain ⟨V, rfl, ok, hQ⟩ := h
  simp
  exact ⟨_, rfl, V, rfl, ok, hQ⟩
end
def S_worst_seats (C : Addr) := S_worst_of C
theorem len_worst_seats {C : Addr} (ds : List Dat) (Q : Dat → Prop) (h : S_worst_seats C ds Q) : ds.length = P_worst_seats.length := by
  obtain ⟨A, rfl, _⟩ := h; rfl
section
variable {P : Program} {w : World} {K : PySem.W.Frag} {mg : Str → Option Value} {base : Heap}
theorem ok_worst_seats (g : Fx K mg) : FnOk P w K mg base L2.CX0 4 g.f_worst_seats g.fd_worst_seats P_worst_seats (spF 0 (S_worst_seats g.C_Places)) := by
  refine okD g.F_worst_seats sc_worst_seats len_worst_seats (fun cdv A outer s H E hr => ?_)
  have nd := (sc_worst_seats).nd
  refine ⟨_, SDs.cost (sds_cons (sd_drop (pd_call (ok_check_places g) (hr.mono (by decide)) (by rfl) g.g_check_places g.F_check_places.kp (b_check_places g) (pad_cons (pd_var (pv 0)) pad_nil))) (sds_cons (sd_ret (pd_call (ok_worst_of g) (hr.mono (by decide)) (by rfl) g.g_worst_of g.F_worst_of.kp (b_worst_of g) (pad_cons (pd_var (pv 0)) pad_nil))) sds_nil)) (by decide), fun ds Q h => ?_⟩
  obtain ⟨V, rfl, ok, hQ⟩ := h
  simp
  exact ⟨_, rfl, V, rfl, ok, hQ⟩
end
def paired (o : List (Option Nat)) : List Nat := (List.range o.length).filter fun l => (oat o l).isSome
def S_always_paired (C : Addr) : List Dat → (Dat → Prop) → Prop := fun ds P => ∃ (A B : List (List Nat)), ds = [pSides C A B] ∧ SidesOk A B ∧ ∀ o (d : Dat), IsOut (sPL A B) o → (∀ l r, ¬ Blk (sPL A B) o l r) → BestP (sPL A B) o → P (.tup [rk (paired o), d])
theorem len_always_paired {C : Addr} (ds : List Dat) (Q : Dat → Prop) (h : S_always_paired C ds Q) : ds.length = P_always_paired.length := by
  obtain ⟨A, B, rfl, _⟩ := h; rfl
section
variable {P : Program} {w : World} {K : PySem.W.Frag} {mg : Str → Option Value} {base : Heap}
theorem ok_always_paired (g : Fx K mg) : FnOk P w K mg base L2.CX0 4 g.f_always_paired g.fd_always_paired P_always_paired (spF 0 (S_always_paired g.C_Sides)) := by
  refine okD g.F_always_paired sc_always_paired len_always_paired (fun cdv A outer s H E hr => ?_)
  have nd := (sc_always_paired).nd
  refine ⟨_, SDs.cost (sds_cons (sd_drop (pd_call (ok_check_sides g) (hr.mono (by decide)) (by rfl) g.g_check_sides g.F_check_sides.kp (b_check_sides g) (pad_cons (pd_var (pv 0)) pad_nil))) (sds_cons (sd_asg (i := 1) (pd_call (ok_lefts_best g) (hr.mono (by decide)) (by rfl) g.g_lefts_best g.F_lefts_best.kp (b_lefts_best g) (pad_cons (pd_var (pv 0)) pad_nil)) nd rfl (.inl rfl)) (sds_cons (sd_asg (i := 2) (pd_callTy call_tuple_ofF cd_tup (by rfl) g.b_tuple boot_tuple (phd_cons ((pd_lc 1024 rfl nd (pid_enum (by rfl) g.b_enumerate (pad_cons (pd_var (pv 1)) pad_nil)) (blkOk_by (own := [("left", 3), ("right", 4)]) (by kernel_rfl)) (fun _ _ _ _ _ => (pgd_tup (n := 2) rfl (pgsd_cons (pgd_name (i := 3) nd rfl (by first | exact .inl rfl | exact .inr rfl)) (pgsd_cons (pgd_name (i := 4) nd rfl (by first | exact .inl rfl | exact .inr rfl)) pgsd_nil)))) (fun _ _ _ _ _ => (ptsd_one (ptd_cmp op_isnA od_isn ((pd_var (pv 4))).toSh (pd_non).toSh (nomark _)))) (fun _ _ _ _ _ => (pd_var (pv 3))))).toSh phd_nil)) nd rfl (.inl rfl)) (sds_cons (sd_ret (pd_tup (pad_cons (pd_var (pv 2)) (pad_cons (pd_callTy call_tuple_ofF cd_tup (by rfl) g.b_tuple boot_tuple (phd_cons ((pd_callB call_sortedA cd_sorted (by rfl) g.b_sorted boot_sorted (phd_cons ((pd_lc 1024 rfl nd (pid_tup (pd_var (pv 1))) (blkOk_by (own := [("right", 4)]) (by kernel_rfl)) (fun _ _ _ _ _ => (pgd_name (i := 4) nd rfl (by first | exact .inl rfl | exact .inr rfl))) (fun _ _ _ _ _ => (ptsd_one (ptd_cmp op_isnA od_isn ((pd_var (pv 4))).toSh (pd_non).toSh (nomark _)))) (fun _ _ _ _ _ => (pd_var (pv 4))))).toSh phd_nil))).toSh phd_nil)) pad_nil)))) sds_nil)))) (by decide), fun ds Q h => ?_⟩
  obtain ⟨A, B, rfl, hs, hQ⟩ := h
  have hn : A.length ≤ 20 := hs.1.2.1
  simp
  refine ⟨_, rfl, A, B, rfl, hs, fun o h1 h2 h3 => ?_⟩
  have ho : o.length = A.length := h1.len
  refine lc_en (List.range o.length) _ (fun i => if (oat o i).isSome = true then some (nD i) else none) (fun P h => ⟨_, rfl, h⟩) (.inr rfl) enum_out (by simp; omega) (fun i hi R hR => ?_) ?_
  · simp
    cases e : oat o i with
    | none => exact .inl ⟨rfl, by simpa [e] using hR⟩
    | some r => exact .inr ⟨rfl, by simpa [e] using hR⟩
  · rw [fm_if]
    simp
    refine lc_tup o oD (fun a => a.map nD) (fun P h => ⟨_, rfl, h⟩) (by omega) (fun a ha R hR => ?_) ?_
    · simp
      cases a with
      | none => exact .inl ⟨rfl, hR⟩
      | some r => exact .inr ⟨rfl, hR⟩
    · have e : o.filterMap (fun a => a.map nD) = (o.filterMap fun a => a).map nD := by
        rw [List.map_filterMap]
      rw [e]
      refine ⟨_, intsD_nD, fun ms _ _ => ?_⟩
      simp
      exact hQ o _ h1 h2 h3
end
def S_seated (C : Addr) : List Dat → (Dat → Prop) → Prop := fun ds P => ∃ (V : PL), ds = [pPl C V] ∧ V.Ok ∧ ∀ o, IsOut V o → (∀ l r, ¬ Blk V o l r) → BestP V o → P (.tup [rk (paired o), rk ((List.range V.rights.length).map fun r => (memb o r).length)])
theorem len_seated {C : Addr} (ds : List Dat) (Q : Dat → Prop) (h : S_seated C ds Q) : ds.length = P_seated.length := by
  obtain ⟨A, rfl, _⟩ := h; rfl
section
variable {P : Program} {w : World} {K : PySem.W.Frag} {mg : Str → Option Value} {base : Heap}
theorem ok_seated (g : Fx K mg) : FnOk P w K mg base L2.CX0 3 g.f_seated g.fd_seated P_seated (spF 0 (S_seated g.C_Places)) := by
  refine okD g.F_seated sc_seated len_seated (fun cdv A outer s H E hr => ?_)
  have nd := (sc_seated).nd
  refine ⟨_, SDs.cost (sds_cons (sd_drop (pd_call (ok_check_places g) (hr.mono (by decide)) (by rfl) g.g_check_places g.F_check_places.kp (b_check_places g) (pad_cons (pd_var (pv 0)) pad_nil))) (sds_cons (sd_asg (i := 1) (pd_call (ok_best_of g) (hr.mono (by decide)) (by rfl) g.g_best_of g.F_best_of.kp (b_best_of g) (pad_cons (pd_var (pv 0)) pad_nil)) nd rfl (.inr rfl)) (sds_cons (sd_asg (i := 2) (pd_callTy call_tuple_ofF cd_tup (by rfl) g.b_tuple boot_tuple (phd_cons ((pd_lc 1024 rfl nd (pid_enum (by rfl) g.b_enumerate (pad_cons (pd_var (pv 1)) pad_nil)) (blkOk_by (own := [("left", 3), ("right", 4)]) (by kernel_rfl)) (fun _ _ _ _ _ => (pgd_tup (n := 2) rfl (pgsd_cons (pgd_name (i := 3) nd rfl (by first | exact .inl rfl | exact .inr rfl)) (pgsd_cons (pgd_name (i := 4) nd rfl (by first | exact .inl rfl | exact .inr rfl)) pgsd_nil)))) (fun _ _ _ _ _ => (ptsd_one (ptd_cmp op_isnA od_isn ((pd_var (pv 4))).toSh (pd_non).toSh (nomark _)))) (fun _ _ _ _ _ => (pd_var (pv 3))))).toSh phd_nil)) nd rfl (.inl rfl)) (sds_cons (sd_ret (pd_tup (pad_cons (pd_var (pv 2)) (pad_cons (pd_callTy call_tuple_ofF cd_tup (by rfl) g.b_tuple boot_tuple (phd_cons ((pd_lc 1024 rfl nd (pid_range1 (by rfl) g.b_range (pad_cons (pd_callB call_lenA cd_len (by rfl) g.b_len boot_len (phd_cons ((pd_fld g.cl_Places g.na_Places_rights (pd_var (pv 0)))).toSh phd_nil)) pad_nil)) (blkOk_by (own := [("right", 4)]) (by kernel_rfl)) (fun _ _ _ _ _ => (pgd_name (i := 4) nd rfl (by first | exact .inl rfl | exact .inr rfl))) (fun _ _ _ _ _ => ptsd_nil) (fun _ _ _ _ _ => (pd_callB call_lenA cd_len (by rfl) g.b_len boot_len (phd_cons ((pd_call (ok_members_of g) (hr.mono (by decide)) (by rfl) g.g_members_of g.F_members_of.kp (b_members_of g) (pad_cons (pd_var (pv 1)) (pad_cons (pd_var (pv 4)) pad_nil)))).toSh phd_nil))))).toSh phd_nil)) pad_nil)))) sds_nil)))) (by decide), fun ds Q h => ?_⟩
  obtain ⟨V, rfl, ok, hQ⟩ := h
  have hn := ok.sd.1.2.1
  have hm := ok.sd.2.1.2.1
  simp
  refine ⟨_, rfl, V, rfl, ok, fun o h1 h2 h3 => ?_⟩
  have ho := h1.len
  refine lc_en (List.range o.length) _ (fun i => if (oat o i).isSome = true then some (nD i) else none) (fun P h => ⟨_, rfl, h⟩) (.inr rfl) enum_out (by simp; omega) (fun i hi R hR => ?_) ?_
  · simp
    cases e : oat o i with
    | none => exact .inl ⟨rfl, by simpa [e] using hR⟩
    | some r => exact .inr ⟨rfl, by simpa [e] using hR⟩
  · rw [fm_if]
    simp
    refine lc_r1 (n := V.rights.length) (fun r => some (nD (memb o r).length)) (fun P h => ⟨_, rfl, _, _, rfl, lkP_r, by simpa using h⟩) (by omega) (by omega) (fun r hr R hR => ?_) ?_
    · simp
      exact ⟨o, r, rfl, by omega, by simp; exact hR⟩
    · rw [fm_map]
      have := hQ o h1 h2 h3
      unfold rk at this
      rw [List.map_map] at this
      exact this
end
theorem cutT {α : Type} (xs : List α) (a : Nat) : cut xs none (some (a : Int)) = xs.take a := by
  unfold cut
  rw [HT.sIx_none, HT.sIx_nat]
  simp
theorem cutD {α : Type} (xs : List α) (a : Nat) : cut xs (some (a : Int)) none = xs.drop a := by
  unfold cut
  rw [HT.sIx_none, HT.sIx_nat]
  rcases Nat.lt_or_ge a xs.length with h | h
  · rw [Nat.min_eq_left (by omega)]
    exact List.take_of_length_le (by simp)
  · rw [Nat.min_eq_right h]
    simp
    exact h
def S_exchanged : List Dat → (Dat → Prop) → Prop := fun ds P => ∃ (A : List (List Nat)) (a : Nat) (r : List Nat), ds = [rks A, nD a, rk r] ∧ a < A.length ∧ A.length ≤ 20 ∧ P (rks (A.set a r))
theorem len_exchanged (ds : List Dat) (Q : Dat → Prop) (h : S_exchanged ds Q) : ds.length = P_exchanged.length := by
  obtain ⟨A, a, r, rfl, _⟩ := h; rfl
section
variable {P : Program} {w : World} {K : PySem.W.Frag} {mg : Str → Option Value} {base : Heap}
theorem ok_exchanged (g : Fx K mg) : FnOk P w K mg base L2.CX0 1 g.f_exchanged g.fd_exchanged P_exchanged (spF 0 S_exchanged) := by
  refine okD g.F_exchanged sc_exchanged len_exchanged (fun cdv A outer s H E hr => ?_)
  have nd := (sc_exchanged).nd
  refine ⟨_, SDs.cost (sds_cons (sd_ret (pd_op op_addA od_add ((pd_op op_addA od_add ((pd_slice ((pd_var (pv 0))).toSh pod_none (pod_some (pd_var (pv 1))))).toSh ((pd_tup (pad_cons (pd_var (pv 2)) pad_nil))).toSh)).toSh ((pd_slice ((pd_var (pv 0))).toSh (pod_some (pd_op op_addA od_add ((pd_var (pv 1))).toSh (pd_int).toSh)) pod_none)).toSh)) sds_nil) (by decide), fun ds Q h => ?_⟩
  obtain ⟨A, a, r, rfl, ha, hl, hQ⟩ := h
  simp [rks]
  rw [cutT]
  refine ⟨by simp; omega, ((a + 1 : Nat) : Int), by simp, ?_⟩
  rw [cutD]
  refine ⟨by simp; omega, ?_⟩
  have e : (A.map rk).take a ++ rk r :: (A.map rk).drop (a + 1) = (A.set a r).map rk := by
    rw [List.map_set, List.set_eq_take_append_cons_drop, if_pos (by simpa using ha)]
  rw [e]
  exact hQ
end
end K90
set_option maxRecDepth 100000
set_option maxHeartbeats 4000000
namespace K90
open PySem PySem.Spec PyProof.Rows L2 RZ DL
open C8 (call_isC pe_gc InsC)
open M90
def moreSeat (V : PL) (r : Nat) : PL := { V with seats := V.seats.set r (at0 V.seats r + 1) }
theorem moreSeat_ok {V : PL} (ok : V.Ok) {r : Nat} (hr : r < V.rights.length) (hs : at0 V.seats r < 20) : (moreSeat V r).Ok where
  sd := ok.sd
  se := ⟨by simp [moreSeat]; exact ok.se.1, fun x hx => by
    rcases List.mem_or_eq_of_mem_set hx with h | h
    · exact ok.se.2 x h
    · omega⟩
  gr := ok.gr
  li := ok.li
theorem enum_nD {r : List Nat} : enumD (r.map nD) = (List.range r.length).map fun i => .tup [nD i, nD (at0 r i)] := by
  apply List.ext_getElem?
  intro i
  rw [enumD_get, List.getElem?_map, List.getElem?_map]
  by_cases h : i < r.length
  · simp [h, at0, nD]
  · simp [h]
theorem seats_map {V : PL} {r : Nat} (h : r < V.seats.length) : (List.range V.seats.length).map (fun i => nD (at0 V.seats i + if i = r then 1 else 0)) = (moreSeat V r).seats.map nD := by
  apply List.ext_getElem?
  intro i
  simp only [moreSeat, List.getElem?_map]
  by_cases hi : i < V.seats.length
  · by_cases e : i = r
    · subst e; simp [hi]
    · have : r ≠ i := fun q => e q.symm
      rw [List.getElem?_set_ne this, at0_get hi]
      simp [hi, e]
  · simp [hi]
def S_with_seat (C : Addr) : List Dat → (Dat → Prop) → Prop := fun ds P => ∃ (V : PL) (r : Nat), ds = [pPl C V, nD r] ∧ V.Ok ∧ r < V.rights.length ∧ at0 V.seats r < 20 ∧ P (pPl C (moreSeat V r))
theorem len_with_seat {C : Addr} (ds : List Dat) (Q : Dat → Prop) (h : S_with_seat C ds Q) : ds.length = P_with_seat.length := by
  obtain ⟨V, r, rfl, _⟩ := h; rfl
section
variable {P : Program} {w : World} {K : PySem.W.Frag} {mg : Str → Option Value} {base : Heap}
theorem ok_with_seat (g : Fx K mg) : FnOk P w K mg base L2.CX0 8 g.f_with_seat g.fd_with_seat P_with_seat (spF 0 (S_with_seat g.C_Places)) := by
  refine okD g.F_with_seat sc_with_seat len_with_seat (fun cdv A outer s H E hr => ?_)
  have nd := (sc_with_seat).nd
  refine ⟨_, SDs.cost (sds_cons (sd_drop (pd_call (ok_check_places g) (hr.mono (by decide)) (by rfl) g.g_check_places g.F_check_places.kp (b_check_places g) (pad_cons (pd_var (pv 0)) pad_nil))) (sds_cons (sd_drop (pd_call (ok_check_right g) (hr.mono (by decide)) (by rfl) g.g_check_right g.F_check_right.kp (b_check_right g) (pad_cons (pd_var (pv 0)) (pad_cons (pd_var (pv 1)) pad_nil)))) (sds_cons (sd_if (ptd_cmp op_ge od_C ((pd_ix (ix_all (ru1 hr)) od_ix ((pd_fld g.cl_Places g.na_Places_seats (pd_var (pv 0)))).toSh ((pd_var (pv 1))).toSh (fun _ _ => rfl))).toSh ((pd_gi (by rfl) g.i_MOST_SEATS)).toSh (nomark _)) (sds_cons sd_never sds_nil) sds_nil) (sds_cons (sd_asg (i := 2) (pd_callTy call_tuple_ofF cd_tup (by rfl) g.b_tuple boot_tuple (phd_cons ((pd_lc 1024 rfl nd (pid_enum (by rfl) g.b_enumerate (pad_cons (pd_fld g.cl_Places g.na_Places_seats (pd_var (pv 0))) pad_nil)) (blkOk_by (own := [("at", 3), ("count", 4)]) (by kernel_rfl)) (fun _ _ _ _ _ => (pgd_tup (n := 2) rfl (pgsd_cons (pgd_name (i := 3) nd rfl (by first | exact .inl rfl | exact .inr rfl)) (pgsd_cons (pgd_name (i := 4) nd rfl (by first | exact .inl rfl | exact .inr rfl)) pgsd_nil)))) (fun _ _ _ _ _ => ptsd_nil) (fun _ _ _ _ _ => (pd_op op_addA od_add ((pd_var (pv 4))).toSh ((pd_callTy call_int1 cd_int (by rfl) g.b_int boot_int (phd_cons ((pd_cmp (op_eqD (ru0 hr)) od_eq ((pd_var (pv 3))).toSh ((pd_var (pv 1))).toSh (nomark _))).toSh phd_nil))).toSh)))).toSh phd_nil)) nd rfl (.inl rfl)) (sds_cons (sd_ret (pd_make g.M_Places (okI_Places g) (hr.mono (by decide)) (by rfl) g.g_Places (bI_Places g) (pad_cons (pd_fld g.cl_Places g.na_Places_lefts (pd_var (pv 0))) (pad_cons (pd_fld g.cl_Places g.na_Places_rights (pd_var (pv 0))) (pad_cons (pd_var (pv 2)) (pad_cons (pd_fld g.cl_Places g.na_Places_groups (pd_var (pv 0))) (pad_cons (pd_fld g.cl_Places g.na_Places_limits (pd_var (pv 0))) pad_nil))))))) sds_nil))))) (by decide), fun ds Q h => ?_⟩
  obtain ⟨V, r, rfl, ok, hr, hs, hQ⟩ := h
  have hm := ok.sd.2.1.2.1
  have hse := ok.se.1
  simp
  refine ⟨_, rfl, V, r, rfl, hr, ?_⟩
  simp [pPl]
  rw [fIx_rk (by omega)]
  refine ⟨by simp; omega, ?_⟩
  refine lc_en (List.range V.seats.length) _ (fun i => some (nD (at0 V.seats i + if i = r then 1 else 0))) (fun P h => ⟨_, rfl, _, _, rfl, lkP_s, h⟩) (.inr rfl) enum_nD (by simp; omega) (fun i hi R hR => ?_) ?_
  · simp
    by_cases e : i = r
    · rw [if_pos e]
      rw [if_pos e] at hR
      show R (some (.int _))
      exact hR
    · rw [if_neg e]
      rw [if_neg e] at hR
      show R (some (.int _))
      exact hR
  · rw [fm_map, seats_map (by omega)]
    simp
    exact ⟨moreSeat V r, rfl, moreSeat_ok ok hr hs, hQ⟩
end
def lieV (V : PL) (l : Nat) (k : List Nat) : PL := { V with lefts := V.lefts.set l k }
theorem lieV_ok {V : PL} (ok : V.Ok) {l : Nat} {k : List Nat} (hk : RkOk V.rights.length k) : (lieV V l k).Ok where
  sd := by
    obtain ⟨h1, h2, h3⟩ := ok.sd
    have hm := h2.2.1
    refine ⟨⟨by simp [lieV]; exact h1.1, by simp [lieV]; exact h1.2.1, fun r hr => ?_⟩, by simp [lieV]; exact h2, fun r hr x hx => ?_⟩
    · rcases List.mem_or_eq_of_mem_set hr with h | h
      · exact h1.2.2 r h
      · subst h
        exact ⟨hk.1, fun x hx => by have := hk.2.1 x hx; omega, by omega⟩
    · rcases List.mem_or_eq_of_mem_set hr with h | h
      · exact h3 r h x hx
      · subst h
        exact hk.2.1 x hx
  se := ok.se
  gr := by simp [lieV]; exact ok.gr
  li := ok.li
def S_by_lie (C : Addr) : List Dat → (Dat → Prop) → Prop := fun ds P => ∃ (V : PL) (l : Nat) (k : List Nat), ds = [pPl C V, nD l, rk k] ∧ V.Ok ∧ l < V.lefts.length ∧ RkOk V.rights.length k ∧
  ∀ o o', IsOut V o → (∀ l r, ¬ Blk V o l r) → BestP V o → IsOut (lieV V l k) o' → (∀ a r, ¬ Blk (lieV V l k) o' a r) → BestP (lieV V l k) o' → P (.tup [oD (oat o l), oD (oat o' l)])
theorem len_by_lie {C : Addr} (ds : List Dat) (Q : Dat → Prop) (h : S_by_lie C ds Q) : ds.length = P_by_lie.length := by
  obtain ⟨V, l, k, rfl, _⟩ := h; rfl
section
variable {P : Program} {w : World} {K : PySem.W.Frag} {mg : Str → Option Value} {base : Heap}
theorem ok_by_lie (g : Fx K mg) : FnOk P w K mg base L2.CX0 8 g.f_by_lie g.fd_by_lie P_by_lie (spF 0 (S_by_lie g.C_Places)) := by
  refine okD g.F_by_lie sc_by_lie len_by_lie (fun cdv A outer s H E hr => ?_)
  have nd := (sc_by_lie).nd
  refine ⟨_, SDs.cost (sds_cons (sd_drop (pd_call (ok_check_places g) (hr.mono (by decide)) (by rfl) g.g_check_places g.F_check_places.kp (b_check_places g) (pad_cons (pd_var (pv 0)) pad_nil))) (sds_cons (sd_if (ptd_not (ptd_val (pd_call (ok_is_below g) (hr.mono (by decide)) (by rfl) g.g_is_below g.F_is_below.kp (b_is_below g) (pad_cons (pd_var (pv 1)) (pad_cons (pd_callB call_lenA cd_len (by rfl) g.b_len boot_len (phd_cons ((pd_fld g.cl_Places g.na_Places_lefts (pd_var (pv 0)))).toSh phd_nil)) pad_nil))))) (sds_cons sd_never sds_nil) sds_nil) (sds_cons (sd_if (ptd_not (ptd_val (pd_call (ok_is_ranking g) (hr.mono (by decide)) (by rfl) g.g_is_ranking g.F_is_ranking.kp (b_is_ranking g) (pad_cons (pd_var (pv 2)) (pad_cons (pd_callB call_lenA cd_len (by rfl) g.b_len boot_len (phd_cons ((pd_fld g.cl_Places g.na_Places_rights (pd_var (pv 0)))).toSh phd_nil)) pad_nil))))) (sds_cons sd_never sds_nil) sds_nil) (sds_cons (sd_asg (i := 3) (pd_call (ok_exchanged g) (hr.mono (by decide)) (by rfl) g.g_exchanged g.F_exchanged.kp (b_exchanged g) (pad_cons (pd_fld g.cl_Places g.na_Places_lefts (pd_var (pv 0))) (pad_cons (pd_var (pv 1)) (pad_cons (pd_var (pv 2)) pad_nil)))) nd rfl (.inl rfl)) (sds_cons (sd_asg (i := 4) (pd_make g.M_Places (okI_Places g) (hr.mono (by decide)) (by rfl) g.g_Places (bI_Places g) (pad_cons (pd_var (pv 3)) (pad_cons (pd_fld g.cl_Places g.na_Places_rights (pd_var (pv 0))) (pad_cons (pd_fld g.cl_Places g.na_Places_seats (pd_var (pv 0))) (pad_cons (pd_fld g.cl_Places g.na_Places_groups (pd_var (pv 0))) (pad_cons (pd_fld g.cl_Places g.na_Places_limits (pd_var (pv 0))) pad_nil)))))) nd rfl (.inl rfl)) (sds_cons (sd_ret (pd_tup (pad_cons (pd_ix (ix_all (ru1 hr)) od_ix ((pd_call (ok_best_of g) (hr.mono (by decide)) (by rfl) g.g_best_of g.F_best_of.kp (b_best_of g) (pad_cons (pd_var (pv 0)) pad_nil))).toSh ((pd_var (pv 1))).toSh (fun _ _ => rfl)) (pad_cons (pd_ix (ix_all (ru1 hr)) od_ix ((pd_call (ok_best_of g) (hr.mono (by decide)) (by rfl) g.g_best_of g.F_best_of.kp (b_best_of g) (pad_cons (pd_var (pv 4)) pad_nil))).toSh ((pd_var (pv 1))).toSh (fun _ _ => rfl)) pad_nil)))) sds_nil)))))) (by decide), fun ds Q h => ?_⟩
  obtain ⟨V, l, k, rfl, ok, hl, hk, hQ⟩ := h
  have hn := ok.sd.1.2.1
  simp
  refine ⟨_, rfl, ?_⟩
  simp [pPl]
  refine ⟨l, V.lefts.length, rfl, by simp [hl], k, V.rights.length, rfl, hk, rfl, V.lefts, l, k, rfl, hl, hn, lieV V l k, rfl, lieV_ok ok hk, V, rfl, ok, fun o h1 h2 h3 => ?_⟩
  have ho := h1.len
  refine Eq.mpr (fIx_out (by omega)) ?_
  refine ⟨lieV V l k, rfl, lieV_ok ok hk, fun o' g1 g2 g3 => ?_⟩
  have ho' := g1.len
  refine Eq.mpr (fIx_out (by simp [lieV] at ho'; omega)) ?_
  exact hQ o o' h1 h2 h3 g1 g2 g3
end
end K90
set_option maxRecDepth 100000
set_option maxHeartbeats 4000000
namespace K90
open PySem PySem.Spec PyProof.Rows L2 RZ DL
open C8 (call_isC pe_gc InsC)
open M90
def S__law_take : List Dat → (Dat → Prop) → Prop := fun ds P => ∃ n : Nat, ds = [.cell, nD n] ∧ 0 < n ∧ n ≤ 1000 ∧ ∀ d : Nat, d < n → P (nD d)
theorem len__law_take (ds : List Dat) (Q : Dat → Prop) (h : S__law_take ds Q) : ds.length = P__law_take.length := by
  obtain ⟨n, rfl, _⟩ := h; rfl
section
variable {P : Program} {w : World} {K : PySem.W.Frag} {mg : Str → Option Value} {base : Heap}
theorem ok__law_take (g : Fx K mg) : FnOk P w K mg base L2.CX0 1 g.f__law_take g.fd__law_take P__law_take (spF 1 S__law_take) := by
  refine okD g.F__law_take sc__law_take len__law_take (fun cdv A outer s H E hr => ?_)
  have nd := (sc__law_take).nd
  refine ⟨_, SDs.cost (sds_cons (sd_if ((pwd_and (ptd_val (pd_box (k := 1) (pv 0) (by decide))) (pwd_and1 (ptd_cmp op_gt od_C ((pd_box (k := 0) (pv 0) (by decide))).toSh (pd_int).toSh (nomark _))))).pt (sds_cons (sd_asg (i := 2) (pd_op op_mod od_I ((pd_callTy call_int1 cd_int (by rfl) g.b_int boot_int (phd_cons ((pd_box (k := 0) (pv 0) (by decide))).toSh phd_nil))).toSh ((pd_var (pv 1))).toSh) nd rfl (.inl rfl)) (sds_cons (sd_box0 (pv 0) (pd_op op_fdiv od_I ((pd_box (k := 0) (pv 0) (by decide))).toSh ((pd_var (pv 1))).toSh)) (sds_cons (sd_ret (pd_var (pv 2))) sds_nil))) sds_nil) (sds_cons (sd_box3 (pv 0) (pv 0)) (sds_cons (sd_asg (i := 3) (pd_op op_mod od_I ((pd_callTy call_int1 cd_int (by rfl) g.b_int boot_int (phd_cons ((pd_op op_pow od_I ((pd_op op_addA od_add ((pd_op op_addA od_add ((pd_box (k := 2) (pv 0) (by decide))).toSh ((pd_op op_mulA od_mul (pd_int).toSh ((pd_box (k := 3) (pv 0) (by decide))).toSh)).toSh)).toSh (pd_int).toSh)).toSh (pd_int).toSh)).toSh phd_nil))).toSh (pd_int).toSh) nd rfl (.inl rfl)) (sds_cons (sd_ret (pd_op op_mod od_I ((pd_callTy call_int1 cd_int (by rfl) g.b_int boot_int (phd_cons ((pd_op op_fdiv od_I ((pd_op op_mod od_I ((pd_callTy call_int1 cd_int (by rfl) g.b_int boot_int (phd_cons ((pd_op op_pow od_I ((pd_op op_addA od_add ((pd_op op_mulA od_mul ((pd_var (pv 3))).toSh (pd_int).toSh)).toSh ((pd_op op_mulA od_mul (pd_int).toSh ((pd_box (k := 3) (pv 0) (by decide))).toSh)).toSh)).toSh (pd_int).toSh)).toSh phd_nil))).toSh (pd_int).toSh)).toSh (pd_int).toSh)).toSh phd_nil))).toSh ((pd_var (pv 1))).toSh)) sds_nil)))) (by decide), fun ds Q h => ?_⟩
  obtain ⟨n, rfl, h1, h2, hQ⟩ := h
  have hC : (CAP : Int) = 274877906944 := by unfold CAP; omega
  have key : ∀ (z : Int) (R : Dat → Prop), (∀ d : Nat, d < n → R (nD d)) → fI HMod.hMod (fun x j => 0 < j) (Dat.int z) (nD n) R := fun z R hR => by
    refine ⟨show (0 : Int) < n by omega, ?_⟩
    have e1 : 0 ≤ z % (n : Int) := Int.emod_nonneg _ (by omega)
    have e2 : z % (n : Int) < n := Int.emod_lt_of_pos _ (by omega)
    have := hR (z % (n : Int)).toNat (by omega)
    have e : nD (z % (n : Int)).toNat = Dat.int (z % n) := by
      unfold nD; rw [Int.toNat_of_nonneg e1]
    rwa [e] at this
  have low : ∀ m : Int, 0 ≤ m → m < 2147483647 → ∀ l : Int, 0 ≤ l → l ≤ ↑CAP → CMul 15486953 l ∧ CPow (m + 15486953 * l + 179425829) 5 ∧ CMul ((m + 15486953 * l + 179425829) ^ 5 % 2147483647) 48271 ∧
      ∀ l_1 : Int, 0 ≤ l_1 → l_1 ≤ ↑CAP → CMul 104743 l_1 ∧ CPow ((m + 15486953 * l + 179425829) ^ 5 % 2147483647 * 48271 + 104743 * l_1) 3 ∧
        CDiv (((m + 15486953 * l + 179425829) ^ 5 % 2147483647 * 48271 + 104743 * l_1) ^ 3 % 2147483587) 64 ∧
        fI HMod.hMod (fun x j => 0 < j) (Dat.int (((m + 15486953 * l + 179425829) ^ 5 % 2147483647 * 48271 + 104743 * l_1) ^ 3 % 2147483587 / 64)) (nD n) Q := fun m m0 m1 l l0 l1 => by
    rw [hC] at l1
    refine ⟨.inl (by omega), ⟨by omega, by omega, by omega⟩, .inr (by omega), fun k k0 k1 => ?_⟩
    rw [hC] at k1
    have a0 : 0 ≤ (m + 15486953 * l + 179425829) ^ 5 % 2147483647 := Int.emod_nonneg _ (by omega)
    have a1 : (m + 15486953 * l + 179425829) ^ 5 % 2147483647 < 2147483647 := Int.emod_lt_of_pos _ (by omega)
    exact ⟨.inl (by omega), ⟨by omega, by omega, by omega⟩, ⟨by omega, by omega⟩, key _ _ hQ⟩
  simp
  refine ⟨low, fun g g0 => ?_⟩
  by_cases hg : g ≤ 0
  · exact .inl ⟨hg, low⟩
  · refine .inr ⟨by omega, fun z z0 => key _ _ fun d hd => fun y y0 => ?_⟩
    refine ⟨⟨show (0 : Int) < n by omega, show (n : Int) < 1073741824 by omega⟩, _, rfl, Int.ediv_nonneg y0 (by omega), hQ d hd⟩
end
def S__law_row : List Dat → (Dat → Prop) → Prop := fun ds P => ∃ o : List (Option Nat), ds = [outD o, nD o.length] ∧ o.length ≤ 64 ∧ P (outD o)
theorem len__law_row (ds : List Dat) (Q : Dat → Prop) (h : S__law_row ds Q) : ds.length = P__law_row.length := by
  obtain ⟨n, rfl, _⟩ := h; rfl
section
variable {P : Program} {w : World} {K : PySem.W.Frag} {mg : Str → Option Value} {base : Heap}
theorem ok__law_row (g : Fx K mg) : FnOk P w K mg base L2.CX0 1 g.f__law_row g.fd__law_row P__law_row (spF 0 S__law_row) := by
  refine okD g.F__law_row sc__law_row len__law_row (fun cdv A outer s H E hr => ?_)
  have nd := (sc__law_row).nd
  refine ⟨_, SDs.cost (sds_cons (sd_if ((pwd_or (ptd_not (ptd_val (pd_callB call_isi cd_isi (by rfl) g.b_isinstance boot_isinstance (phd_cons ((pd_var (pv 0))).toSh (phd_cons ((pd_ty (pe_bltn (by rfl) g.b_tuple boot_tuple rfl))).toSh phd_nil))))) (pwd_or1 (ptd_cmp (op_neD (ru0 hr)) od_ne ((pd_callB call_lenA cd_len (by rfl) g.b_len boot_len (phd_cons ((pd_var (pv 0))).toSh phd_nil))).toSh ((pd_var (pv 1))).toSh (nomark _))))).pt (sds_cons (sd_ret (pd_op op_mulA od_mul ((pd_tup (pad_cons (pd_neg pd_int) pad_nil))).toSh ((pd_var (pv 1))).toSh)) sds_nil) sds_nil) (sds_cons (sd_ret (pd_callTy call_tuple_ofF cd_tup (by rfl) g.b_tuple boot_tuple (phd_cons ((pd_lc 1024 rfl nd (pid_tup (pd_var (pv 0))) (blkOk_by (own := [("one", 2)]) (by kernel_rfl)) (fun _ _ _ _ _ => (pgd_name (i := 2) nd rfl (by first | exact .inl rfl | exact .inr rfl))) (fun _ _ _ _ _ => ptsd_nil) (fun _ _ _ _ _ => (pd_if ((pwd_and (ptd_cmp op_isnA od_isn ((pd_var (pv 2))).toSh (pd_non).toSh (nomark _)) (pwd_and1 ((pwd_or (ptd_not (ptd_val (pd_callB call_isi cd_isi (by rfl) g.b_isinstance boot_isinstance (phd_cons ((pd_var (pv 2))).toSh (phd_cons ((pd_ty (pe_bltn (by rfl) g.b_int boot_int rfl))).toSh phd_nil))))) (pwd_or1 (ptd_val (pd_callB call_isi cd_isi (by rfl) g.b_isinstance boot_isinstance (phd_cons ((pd_var (pv 2))).toSh (phd_cons ((pd_ty (pe_bltn (by rfl) g.b_bool boot_bool rfl))).toSh phd_nil))))))).pt))).pt (pd_neg pd_int) (pd_var (pv 2)))))).toSh phd_nil))) sds_nil)) (by decide), fun ds Q h => ?_⟩
  obtain ⟨o, rfl, h1, hQ⟩ := h
  simp
  refine .inl ⟨by simp [nD], ?_⟩
  refine lc_tup o oD (fun x => some (oD x)) (fun P h => ⟨_, rfl, h⟩) (by omega) (fun x hx R hR => ?_) ?_
  · simp
    cases x with
    | none => simp [oD]; exact .inl ⟨rfl, hR⟩
    | some n => simpa [oD] using hR
  · rw [fm_map]
    exact hQ
end
theorem perm_take {L : List Nat} {d : Nat} (h : d < L.length) (F : List Nat) {N : List Nat} (hp : (F ++ L).Perm N) : ((F ++ [L[d]]) ++ L.eraseIdx d).Perm N := by
  refine List.Perm.trans ?_ hp
  rw [List.append_assoc]
  refine List.Perm.append_left F ?_
  have e : L.take d ++ L[d] :: L.drop (d + 1) = L := by simp
  rw [List.eraseIdx_eq_take_drop_succ]
  have q : (L.take d ++ L[d] :: L.drop (d + 1)).Perm (L[d] :: (L.take d ++ L.drop (d + 1))) := List.perm_middle
  rw [e] at q
  exact q.symm
def S__law_mixed : List Dat → (Dat → Prop) → Prop := fun ds P => ∃ n : Nat, ds = [.cell, nD n] ∧ n ≤ 60 ∧ ∀ r : List Nat, r.Perm (List.range n) → P (.lst (r.map nD))
theorem len__law_mixed (ds : List Dat) (Q : Dat → Prop) (h : S__law_mixed ds Q) : ds.length = P__law_mixed.length := by
  obtain ⟨n, rfl, _⟩ := h; rfl
section
variable {P : Program} {w : World} {K : PySem.W.Frag} {mg : Str → Option Value} {base : Heap}
theorem ok__law_mixed (g : Fx K mg) : FnOk P w K mg base L2.CX0 2 g.f__law_mixed g.fd__law_mixed P__law_mixed (spF 100 S__law_mixed) := by
  refine okD g.F__law_mixed sc__law_mixed len__law_mixed (fun cdv A outer s H E hr => ?_)
  have nd := (sc__law_mixed).nd
  refine ⟨_, SDs.cost (sds_cons (sd_par (i := 2) (j := 3) (pmd_cons (m := .fr) (pd_lrange1 rfl (by rfl) g.b_list (by rfl) g.b_range (pd_var (pv 1))) (pmd_cons (m := .fr) (pd_lst pad_nil) pmd_nil)) rfl rfl nd rfl rfl (by decide) rfl rfl (by rfl)) (sds_cons (sd_while 64 PassesOwn.never (ptd_cmp (op_neD (ru0 hr)) od_ne (pd_varS (pv 2)) ((pd_lst pad_nil)).toSh (nomark _)) (sds_cons (sd_appPop (pv 3) (pv 2) (pd_call (ok__law_take g) (hr.mono (by decide)) (by rfl) g.g__law_take g.F__law_take.kp (b__law_take g) (pad_cons (pd_var (pv 0)) (pad_cons (pd_callB call_lenA cd_len (by rfl) g.b_len boot_len (phd_cons (pd_varS (pv 2)) phd_nil)) pad_nil)))) sds_nil)) (sds_cons (((sd_ret (pd_var (pv 3)))).frz 3) sds_nil))) (by decide), fun ds Q h => ?_⟩
  obtain ⟨n, rfl, h1, hQ⟩ := h
  simp
  refine ⟨by omega, ?_⟩
  refine ⟨fun m ε => ∃ L F : List Nat, m = L.length ∧ (F ++ L).Perm (List.range n) ∧ ε = [.val .cell, .val (nD n), .own (.lst (L.map nD)), .own (.lst (F.map nD))], ⟨n, by omega, List.range n, [], by simp, by simp, by simp [rng0]⟩, fun m ε ⟨L, F, hm, hp, hε⟩ => ?_⟩
  subst hε
  simp
  rw [eqD_lnil]
  cases L with
  | nil =>
    refine .inl ⟨rfl, hQ F ?_⟩
    simpa using hp
  | cons a L =>
    refine .inr ⟨by simp, ?_⟩
    have hl := hp.length_eq
    simp at hl
    refine ⟨(a :: L).length, rfl, by simp, by simp; omega, fun d hd => ?_⟩
    refine ⟨d, rfl, by simp at hd; omega, nD (a :: L)[d], ⟨_, List.getElem?_eq_getElem hd, rfl⟩, by omega, ((a :: L).eraseIdx d).length, by rw [hm, List.length_eraseIdx_of_lt hd]; simp, _, rfl, F ++ [(a :: L)[d]], perm_take hd F hp, by simp only [List.eraseIdx_eq_take_drop_succ, List.map_append, List.map_take, List.map_drop], by simp⟩
end
theorem no_non {r : List Nat} : ((r.map nD).any fun z => eqD z Dat.non) = false := by
  induction r with
  | nil => rfl
  | cons a r ih => rw [List.map_cons, List.any_cons, ih]; rfl
def S__law_prefers : List Dat → (Dat → Prop) → Prop := fun ds P => (∃ (r : List Nat) (a : Nat) (o : Option Nat), ds = [rk r, nD a, oD o] ∧ (a ∈ r → ∀ b, o = some b → b ∈ r) ∧ P (.bl (decide (a ∈ r) && abB r a o))) ∨ ∃ (r : List Nat) (o : Option Nat), ds = [rk r, .non, oD o] ∧ P (.bl false)
theorem len__law_prefers (ds : List Dat) (Q : Dat → Prop) (h : S__law_prefers ds Q) : ds.length = P__law_prefers.length := by
  rcases h with ⟨r, a, o, rfl, _⟩ | ⟨r, o, rfl, _⟩ <;> rfl
section
variable {P : Program} {w : World} {K : PySem.W.Frag} {mg : Str → Option Value} {base : Heap}
theorem ok__law_prefers (g : Fx K mg) : FnOk P w K mg base L2.CX0 1 g.f__law_prefers g.fd__law_prefers P__law_prefers (spF 0 S__law_prefers) := by
  refine okD g.F__law_prefers sc__law_prefers len__law_prefers (fun cdv A outer s H E hr => ?_)
  have nd := (sc__law_prefers).nd
  refine ⟨_, SDs.cost (sds_cons (sd_ret (pd_and (pd_cmp (op_inA (ru hr)) od_in ((pd_var (pv 1))).toSh ((pd_var (pv 0))).toSh (by with_unfolding_all rfl)) (pd_one (pd_or (pd_cmp op_isA od_is ((pd_var (pv 2))).toSh (pd_non).toSh (nomark _)) (pd_one (pd_cmp op_lt od_C ((pd_tindex (pd_var (pv 0)) (pd_var (pv 1)))).toSh ((pd_tindex (pd_var (pv 0)) (pd_var (pv 2)))).toSh (nomark _))))))) sds_nil) (by decide), fun ds Q h => ?_⟩
  rcases h with ⟨r, a, o, rfl, h1, h3⟩ | ⟨r, o, rfl, h3⟩
  rotate_left
  · simp
    refine ⟨rfl, all_flat_nD, ?_⟩
    rw [no_non]
    exact .inl ⟨rfl, h3⟩
  simp
  by_cases h : a ∈ r
  · simp only [h, decide_true, Bool.true_and] at h3
    cases o with
    | none => exact .inr ⟨by simpa using h, .inr ⟨rfl, h3⟩⟩
    | some b =>
      obtain ⟨g1, g2⟩ := dTIx_at h
      obtain ⟨g3, g4⟩ := dTIx_at (h1 h b rfl)
      refine .inr ⟨by simpa using h, .inl ⟨rfl, _, rfl, by simp, ixo r a, nD a, g1, by simp, g2, _, rfl, by simp, ixo r b, nD b, g3, by simp [oD], g4, h3⟩⟩
  · refine .inl ⟨by simpa using h, by simpa [h] using h3⟩
end
theorem rk_perm {n : Nat} {r : List Nat} (h : r.Perm (List.range n)) (hn : n ≤ 20) : RkOk n r ∧ r.length = n := by
  refine ⟨⟨h.symm.nodup List.nodup_range, fun x hx => List.mem_range.mp (h.subset hx), hn⟩, ?_⟩
  rw [h.length_eq, List.length_range]
/-- rankings as they are drawn -/
def Drawn (n m : Nat) (full : Bool) (rs : List (List Nat)) : Prop := rs.length = n ∧ (∀ r ∈ rs, RkOk m r) ∧ (full = true → ∀ r ∈ rs, r.Perm (List.range m))
def S__law_rankings : List Dat → (Dat → Prop) → Prop := fun ds P => ∃ (n m : Nat) (full : Bool), ds = [.cell, nD n, nD m, .bl full] ∧ n ≤ 60 ∧ 0 < m ∧ m ≤ 20 ∧ ∀ rs, Drawn n m full rs → P (rks rs)
theorem len__law_rankings (ds : List Dat) (Q : Dat → Prop) (h : S__law_rankings ds Q) : ds.length = P__law_rankings.length := by
  obtain ⟨n, m, f, rfl, _⟩ := h; rfl
section
variable {P : Program} {w : World} {K : PySem.W.Frag} {mg : Str → Option Value} {base : Heap}
theorem ok__law_rankings (g : Fx K mg) : FnOk P w K mg base L2.CX0 3 g.f__law_rankings g.fd__law_rankings P__law_rankings (spF 10000 S__law_rankings) := by
  refine okD g.F__law_rankings sc__law_rankings len__law_rankings (fun cdv A outer s H E hr => ?_)
  have nd := (sc__law_rankings).nd
  refine ⟨_, SDs.cost (sds_cons (sd_asgO (i := 4) (pd_lst pad_nil) nd rfl (.inl rfl)) (sds_cons (sd_for 64 PassesOwn.never rfl (pid_range1 (by rfl) g.b_range (pad_cons (pd_var (pv 1)) pad_nil)) (pgd_name (i := 5) nd rfl (.inl rfl)) (sds_cons (sd_asg (i := 6) (pd_call (ok__law_mixed g) (hr.mono (by decide)) (by rfl) g.g__law_mixed g.F__law_mixed.kp (b__law_mixed g) (pad_cons (pd_var (pv 0)) (pad_cons (pd_var (pv 2)) pad_nil))) nd rfl (.inl rfl)) (sds_cons (sd_app (pv 4) (pd_callTy call_tuple_ofF cd_tup (by rfl) g.b_tuple boot_tuple (phd_cons ((pd_if (ptd_val (pd_var (pv 3))) (pd_var (pv 6)) (pd_slice ((pd_var (pv 6))).toSh pod_none (pod_some (pd_op op_sub od_I0 ((pd_var (pv 2))).toSh ((pd_call (ok__law_take g) (hr.mono (by decide)) (by rfl) g.g__law_take g.F__law_take.kp (b__law_take g) (pad_cons (pd_var (pv 0)) (pad_cons (pd_callB (call_minA rfl) cd_min (by rfl) g.b_min boot_min (phd_cons (pd_int).toSh (phd_cons ((pd_var (pv 2))).toSh phd_nil))) pad_nil)))).toSh))))).toSh phd_nil))) sds_nil))) (sds_cons (sd_ret (pd_callTy call_tuple_ofF cd_tup (by rfl) g.b_tuple boot_tuple (phd_cons (pd_varS (pv 4)) phd_nil))) sds_nil))) (by decide), fun ds Q h => ?_⟩
  obtain ⟨n, m, full, rfl, h1, h2, h3, hQ⟩ := h
  simp
  refine for_r1 (n := n) (fun P h => ⟨_, rfl, h⟩) (by omega) (by omega) (fun i ε => ∃ (rs : List (List Nat)) (x5 x6 : Sl), Drawn i m full rs ∧ ε = [.val .cell, .val (nD n), .val (nD m), .val (.bl full), .own (.lst (rs.map rk)), x5, x6]) ⟨[], .off, .off, ⟨rfl, by simp, by simp⟩, rfl⟩ (fun i ε hi ⟨rs, x5, x6, hd, hε⟩ => ?_) (fun ε ⟨rs, x5, x6, hd, hε⟩ => ?_)
  · subst hε
    simp
    refine ⟨m, rfl, by omega, fun r hr => ?_⟩
    obtain ⟨r1, r2⟩ := rk_perm hr h3
    have put : ∀ k : List Nat, RkOk m k → (full = true → k.Perm (List.range m)) → rs.length < 100000 ∧ ∃ rs_1, Drawn (i + 1) m full rs_1 ∧ List.map rk rs ++ [rk k] = List.map rk rs_1 := fun k k1 k2 => by
      obtain ⟨d1, d2, d3⟩ := hd
      refine ⟨by omega, rs ++ [k], ⟨by simp [d1], fun r hr => ?_, fun hf r hr => ?_⟩, by simp⟩
      · rcases List.mem_append.mp hr with h | h
        · exact d2 r h
        · rw [List.mem_singleton.mp h]; exact k1
      · rcases List.mem_append.mp hr with h | h
        · exact d3 hf r h
        · rw [List.mem_singleton.mp h]; exact k2 hf
    cases full with
    | true => exact .inr ⟨rfl, put r r1 fun _ => hr⟩
    | false =>
      refine .inl ⟨rfl, ?_⟩
      have e3 : (if (m : Int) < 3 then (m : Int) else 3) = ((if m < 3 then m else 3 : Nat) : Int) := by split <;> split <;> omega
      have o2 : ∀ R, fMin [Dat.int 3, nD m] R = R (.int (if (m : Int) < 3 then (m : Int) else 3)) := fun R => o_Min2
      rw [o2, e3]
      refine ⟨if m < 3 then m else 3, rfl, by split <;> omega, by split <;> omega, fun d hdd => ?_⟩
      have hdm : d < m := by split at hdd <;> omega
      refine ⟨trivial, ((m - d : Nat) : Int), ?_, ?_⟩
      · show Dat.int ((m : Int) - d) = _
        congr 1
        omega
      · have o3 : ∀ R, fSl (Dat.lst (r.map nD)) none (some ((m - d : Nat) : Int)) R = R (.lst ((r.take (m - d)).map nD)) := fun R => by
          rw [o_SlL, cutT, ← List.map_take]
        rw [o3]
        refine put (r.take (m - d)) ⟨r1.1.sublist (List.take_sublist _ _), fun x hx => r1.2.1 x (List.mem_of_mem_take hx), r1.2.2⟩ fun h => by cases h
  · subst hε
    simp
    exact hQ rs hd
end
end K90
set_option maxRecDepth 100000
set_option maxHeartbeats 4000000
namespace K90
open PySem PySem.Spec PyProof.Rows L2 RZ DL
open C8 (call_isC pe_gc InsC)
open M90
/-- a pairing's block, as the law counts it -/
def PBlk (A B : List (List Nat)) (o : List (Option Nat)) (l r : Nat) : Prop := l < A.length ∧ r ∈ row A l ∧ l ∈ row B r ∧ abB (row A l) r (oat o l) = true ∧ abB (row B r) l (memb o r).head? = true
structure Pairs (A B : List (List Nat)) (o : List (Option Nat)) : Prop where
  len : o.length = A.length
  fit : ∀ l r, oat o l = some r → l < A.length ∧ r < B.length ∧ r ∈ row A l ∧ l ∈ row B r
theorem memb_head {o : List (Option Nat)} {r b : Nat} (h : (memb o r).head? = some b) : oat o b = some r := mem_memb.mp (List.mem_of_head? h)
def wb_Iv (A B : List (List Nat)) (o : List (Option Nat)) (i : Nat) (ε : Ev) : Prop := ∃ x3 x4 x5 x6 : Sl, ε = [.val (rks A), .val (rks B), .val (outD o), x3, x4, x5, x6] ∧ ∀ l r, l < i → ¬ PBlk A B o l r
def wb_Iw (A B : List (List Nat)) (o : List (Option Nat)) (i : Nat) (j : Nat) (ε : Ev) : Prop := ∃ x4 x5 x6 : Sl, ε = [.val (rks A), .val (rks B), .val (outD o), .val (nD i), x4, x5, x6] ∧ (∀ l r, l < i → ¬ PBlk A B o l r) ∧ ∀ r ∈ (row A i).take j, ¬ PBlk A B o i r
def S__law_blocks : List Dat → (Dat → Prop) → Prop := fun ds P => ∃ (A B : List (List Nat)) (o : List (Option Nat)), ds = [rks A, rks B, outD o] ∧ SidesOk A B ∧ Pairs A B o ∧ ∀ b : Bool, (b = true ↔ ∃ l r, PBlk A B o l r) → P (.bl b)
theorem len__law_blocks (ds : List Dat) (Q : Dat → Prop) (h : S__law_blocks ds Q) : ds.length = P__law_blocks.length := by
  obtain ⟨n, m, f, rfl, _⟩ := h; rfl
section
variable {P : Program} {w : World} {K : PySem.W.Frag} {mg : Str → Option Value} {base : Heap}
theorem ok__law_blocks (g : Fx K mg) : FnOk P w K mg base L2.CX0 2 g.f__law_blocks g.fd__law_blocks P__law_blocks (spF 0 S__law_blocks) := by
  refine okD g.F__law_blocks sc__law_blocks len__law_blocks (fun cdv A outer s H E hr => ?_)
  have nd := (sc__law_blocks).nd
  refine ⟨_, SDs.cost (sds_cons (sd_for 1024 PassesOwn.never rfl (pid_range1 (by rfl) g.b_range (pad_cons (pd_callB call_lenA cd_len (by rfl) g.b_len boot_len (phd_cons ((pd_var (pv 0))).toSh phd_nil)) pad_nil)) (pgd_name (i := 3) nd rfl (.inl rfl)) (sds_cons (sd_for 1024 PassesOwn.never rfl (pid_tup (pd_ix (ix_all (ru1 hr)) od_ix ((pd_var (pv 0))).toSh ((pd_var (pv 3))).toSh (fun _ _ => rfl))) (pgd_name (i := 4) nd rfl (.inr rfl)) (sds_cons (sd_setLc (i := 5) 1024 rfl nd rfl rfl (by rfl) (pid_range1 (by rfl) g.b_range (pad_cons (pd_callB call_lenA cd_len (by rfl) g.b_len boot_len (phd_cons ((pd_var (pv 0))).toSh phd_nil)) pad_nil)) (blkOk_by (own := [("other", 6)]) (by kernel_rfl)) (fun _ _ _ _ _ => (pgd_name (i := 6) nd rfl (by first | exact .inl rfl | exact .inr rfl))) (fun _ _ _ _ _ => (ptsd_one (ptd_cmp (op_eqD (ru0 hr)) od_eq ((pd_ix (ix_all (ru1 hr)) od_ix ((pd_var (pv 2))).toSh ((pd_var (pv 6))).toSh (fun _ _ => rfl))).toSh ((pd_var (pv 4))).toSh (nomark _)))) (fun _ _ _ _ _ => (pd_var (pv 6)))) (sds_cons (((sd_if ((pwd_and (ptd_cmp (op_inA (ru hr)) od_in ((pd_var (pv 3))).toSh ((pd_ix (ix_all (ru1 hr)) od_ix ((pd_var (pv 1))).toSh ((pd_var (pv 4))).toSh (fun _ _ => rfl))).toSh (by with_unfolding_all rfl)) (pwd_and (ptd_val (pd_call (ok__law_prefers g) (hr.mono (by decide)) (by rfl) g.g__law_prefers g.F__law_prefers.kp (b__law_prefers g) (pad_cons (pd_ix (ix_all (ru1 hr)) od_ix ((pd_var (pv 0))).toSh ((pd_var (pv 3))).toSh (fun _ _ => rfl)) (pad_cons (pd_var (pv 4)) (pad_cons (pd_ix (ix_all (ru1 hr)) od_ix ((pd_var (pv 2))).toSh ((pd_var (pv 3))).toSh (fun _ _ => rfl)) pad_nil))))) (pwd_and1 (ptd_val (pd_call (ok__law_prefers g) (hr.mono (by decide)) (by rfl) g.g__law_prefers g.F__law_prefers.kp (b__law_prefers g) (pad_cons (pd_ix (ix_all (ru1 hr)) od_ix ((pd_var (pv 1))).toSh ((pd_var (pv 4))).toSh (fun _ _ => rfl)) (pad_cons (pd_var (pv 3)) (pad_cons (pd_if (ptd_cmp (op_neD (ru0 hr)) od_ne ((pd_var (pv 5))).toSh ((pd_lst pad_nil)).toSh (nomark _)) (pd_ix (ix_all (ru1 hr)) od_ix ((pd_var (pv 5))).toSh (pd_int).toSh (fun _ _ => rfl)) pd_non) pad_nil))))))))).pt (sds_cons (sd_ret pd_bl) sds_nil) sds_nil)).frz 5) sds_nil))) sds_nil)) (sds_cons (sd_ret pd_bl) sds_nil)) (by decide), fun ds Q h => ?_⟩
  obtain ⟨A, B, o, rfl, hs, io, hQ⟩ := h
  have hn : A.length ≤ 20 := hs.1.2.1
  have hm : B.length ≤ 20 := hs.2.1.2.1
  have ho := io.len
  simp
  refine for_r1 (n := A.length) (fun P h => by simpa using h) (by omega) (by omega) (wb_Iv A B o) ⟨.off, .off, .off, .off, rfl, by simp⟩ (fun i ε hi ⟨x3, x4, x5, x6, hε, hb⟩ => ?_) (fun ε ⟨x3, x4, x5, x6, hε, hb⟩ => ?_)
  · subst hε
    have hrow := hs.1.2.2 _ (row_mem hi)
    simp
    refine for_tup (ds := (row A i).map nD) (fun P h => ⟨_, rfl, _, rfl, Eq.mpr (fIx_rks hi) h⟩) (by have := hrow.len; simp; omega) (wb_Iw A B o i) ⟨x4, x5, x6, rfl, hb, by simp⟩ (fun j d ε hd ⟨x4, x5, x6, hε, hb, hc⟩ => ?_) (fun ε ⟨x4, x5, x6, hε, hb, hc⟩ => ?_)
    · obtain ⟨hj, hj2, rfl⟩ := map_nD_get hd
      subst hε
      generalize hr0 : at0 (row A i) j = r at *
      have hrl : r ∈ row A i := List.mem_of_getElem? hj2
      have hrm : r < B.length := hs.2.2 _ (row_mem hi) r hrl
      simp
      refine lc_r1 (n := A.length) (fun l => if decide (oat o l = some r) = true then some (nD l) else none) (fun P h => by simpa using h) (by omega) (by omega) (fun l hl R hR => ?_) ?_
      · simp
        have q1 : ∀ R, fIx (outD o) (Dat.int (l : Int)) R = R (oD (oat o l)) := fun R => fIx_out (by omega)
        rw [q1]
        refine ⟨pl_oD, ?_⟩
        rw [eqD_on]
        by_cases e : oat o l = some r
        · rw [if_pos (by simpa using e)] at hR
          exact .inr ⟨by simpa using e, hR⟩
        · rw [if_neg (by simpa using e)] at hR
          exact .inl ⟨by simpa using e, hR⟩
      · rw [fm_if, show (List.range A.length).filter (fun l => decide (oat o l = some r)) = memb o r by unfold memb; rw [ho]]
        simp
        have step : ∀ x6 : Sl, ¬ PBlk A B o i r → wb_Iw A B o i (j + 1) [Sl.val (rks A), Sl.val (rks B), Sl.val (outD o), Sl.val (nD i), Sl.val (nD r), Sl.val (Dat.lst (List.map nD (memb o r))), x6] := fun x6 hnb => by
          refine ⟨_, _, _, rfl, hb, fun q hq => ?_⟩
          rw [List.take_add_one, hj2] at hq
          rcases List.mem_append.mp hq with hq | hq
          · exact hc q hq
          · have : q = r := by simpa using hq
            rw [this]; exact hnb
        rw [fIx_rks hrm, fIn_rk]
        by_cases h1 : i ∈ row B r
        · refine .inr ⟨by simp [h1], ?_⟩
          rw [fIx_rks hi, fIx_out (by omega)]
          refine .inl ⟨row A i, r, oat o i, rfl, fun _ b hb => (io.fit i b hb).2.2.1, ?_⟩
          by_cases h2 : abB (row A i) r (oat o i) = true
          · refine .inr ⟨by simp [hrl, h2], ?_⟩
            rw [fIx_rks hrm]
            have fin : ∀ oh : Option Nat, (memb o r).head? = oh → S__law_prefers [rk (row B r), nD i, oD oh] fun d => d = Dat.bl false ∧ wb_Iw A B o i (j + 1) [Sl.val (rks A), Sl.val (rks B), Sl.val (outD o), Sl.val (nD i), Sl.val (nD r), Sl.val (Dat.lst (List.map nD (memb o r))), x6] ∨ d = Dat.bl true ∧ Q (Dat.bl true) := fun oh eh => by
              refine .inl ⟨row B r, i, oh, rfl, fun _ b hb => (io.fit b r (memb_head (eh.trans hb))).2.2.2, ?_⟩
              by_cases h3 : abB (row B r) i oh = true
              · refine .inr ⟨by simp [h1, h3], hQ true ⟨fun _ => ⟨i, r, hi, hrl, h1, h2, by rw [eh]; exact h3⟩, fun _ => rfl⟩⟩
              · refine .inl ⟨by simp [h3], step _ fun hB => h3 ?_⟩
                have := hB.2.2.2.2
                rwa [eh] at this
            rw [eqD_lnil]
            cases e : memb o r with
            | nil =>
              rw [e] at fin
              exact .inl ⟨by simp, fin none rfl⟩
            | cons z zs =>
              rw [e] at fin
              exact .inr ⟨by simp, nD z, show atI _ ((0 : Nat) : Int) = _ from atI_nat rfl, fin (some z) rfl⟩
          · exact .inl ⟨by simp [h2], step _ fun hB => h2 hB.2.2.2.1⟩
        · exact .inl ⟨by simp [h1], step _ fun hB => h1 hB.2.2.1⟩
    · subst hε
      rw [List.length_map, List.take_length] at hc
      refine ⟨_, _, x5, x6, rfl, fun l r hlr hB => ?_⟩
      by_cases e : l = i
      · subst e
        exact hc r hB.2.1 hB
      · exact hb l r (by omega) hB
  · subst hε
    simp
    refine hQ false ⟨fun h => (by cases h), fun ⟨l, r, h⟩ => (hb l r h.1 h).elim⟩
end
end K90
set_option maxRecDepth 100000
set_option maxHeartbeats 4000000
namespace K90
open PySem PySem.Spec PyProof.Rows L2 RZ DL
open C8 (call_isC pe_gc InsC)
open M90
def ownersL (S : List Nat) (n : Nat) : List Nat := (List.range n).flatMap fun r => List.replicate (at0 S r) r
def startL (S : List Nat) (r : Nat) : Nat := (ownersL S r).length
def numsL (S : List Nat) (r : Nat) : List Nat := (List.range (at0 S r)).map (startL S r + ·)
def splA (A : List (List Nat)) (S : List Nat) : List (List Nat) := A.map fun k => k.flatMap (numsL S)
def splB (B : List (List Nat)) (S : List Nat) : List (List Nat) := (ownersL S B.length).map (row B)
theorem ownersL_succ {S : List Nat} {n : Nat} : ownersL S (n + 1) = ownersL S n ++ List.replicate (at0 S n) n := by simp [ownersL, List.range_succ]
theorem at0_le {S : List Nat} {b : Nat} (h : ∀ x ∈ S, x ≤ b) (r : Nat) : at0 S r ≤ b := by
  by_cases hr : r < S.length
  · exact h _ (List.mem_of_getElem? (at0_get hr))
  · have : S[r]? = none := by simp; omega
    simp [at0, this]
theorem ownersL_len {S : List Nat} {b : Nat} (h : ∀ x ∈ S, x ≤ b) (n : Nat) : (ownersL S n).length ≤ n * b := by
  induction n with
  | zero => simp [ownersL]
  | succ n ih =>
    rw [ownersL_succ, Nat.succ_mul]
    have := at0_le h n
    simp
    omega
def ksN (f : Nat → Dat) (n : Nat) : List (Key × Dat) := (List.range n).map fun (r : Nat) => (Sum.inl (r : Int), f r)
theorem ksN_put {f : Nat → Dat} {n : Nat} : putD (ksN f n) (.inl (n : Int)) (f n) = ksN f (n + 1) := by
  have : ((ksN f n).any fun kv => decide (kv.1 = .inl (n : Int))) = false := by
    rw [List.any_eq_false]
    intro kv hk
    obtain ⟨r, hr, rfl⟩ := List.mem_map.mp hk
    have := List.mem_range.mp hr
    simp
    omega
  unfold putD
  rw [this]
  simp [ksN, List.range_succ]
theorem ksN_look {f : Nat → Dat} {n r : Nat} (h : r < n) : lookD (ksN f n) (.inl (r : Int)) = some (f r) := by
  unfold lookD
  have hs : ((ksN f n).find? fun kv => decide (kv.1 = .inl (r : Int))) = some (.inl (r : Int), f r) := by
    unfold ksN
    rw [List.find?_map]
    have : (List.range n).find? ((fun (kv : Key × Dat) => decide (kv.1 = .inl (r : Int))) ∘ fun (r : Nat) => (Sum.inl (r : Int), f r)) = some r := by
      rw [List.find?_eq_some_iff_getElem]
      refine ⟨by simp, r, by simpa using h, by simp, fun j hj => ?_⟩
      simp
      omega
    rw [this]
    rfl
  rw [hs]
  rfl
def S__law_split : List Dat → (Dat → Prop) → Prop := fun ds P => ∃ (A B : List (List Nat)) (S : List Nat), ds = [rks A, rks B, rk S] ∧ SidesOk A B ∧ S.length = B.length ∧ (∀ x ∈ S, x ≤ 20) ∧
  P (.lst [rks (splA A S), rks (splB B S), .lst ((ownersL S B.length).map nD)])
theorem len__law_split (ds : List Dat) (Q : Dat → Prop) (h : S__law_split ds Q) : ds.length = P__law_split.length := by
  obtain ⟨n, m, f, rfl, _⟩ := h; rfl
theorem fm_len {α β : Type} {f : α → List β} {b : Nat} (h : ∀ x, (f x).length ≤ b) (l : List α) : (l.flatMap f).length ≤ l.length * b := by
  induction l with
  | nil => simp
  | cons x l ih =>
    have := h x
    simp only [List.flatMap_cons, List.length_append, List.length_cons, Nat.succ_mul]
    omega
theorem splA_take {A : List (List Nat)} {S : List Nat} {i : Nat} (hi : i < A.length) : splA (A.take (i + 1)) S = splA (A.take i) S ++ [(row A i).flatMap (numsL S)] := by
  unfold splA
  rw [List.take_add_one, List.map_append]
  congr 1
  simp [row, hi]
def numD (S : List Nat) (r : Nat) : Dat := .lst ((numsL S r).map nD)
section
variable {P : Program} {w : World} {K : PySem.W.Frag} {mg : Str → Option Value} {base : Heap}
theorem ok__law_split (g : Fx K mg) : FnOk P w K mg base L2.CX0 1 g.f__law_split g.fd__law_split P__law_split (spF 0 S__law_split) := by
  refine okD g.F__law_split sc__law_split len__law_split (fun cdv A outer s H E hr => ?_)
  have nd := (sc__law_split).nd
  refine ⟨_, SDs.cost (sds_cons (sd_par (i := 3) (j := 4) (pmd_cons (m := .fr) pd_dnewK (pmd_cons (m := .rep) ((pd_lst pad_nil)).frz pmd_nil)) rfl rfl nd rfl rfl (by decide) rfl rfl (by rfl)) (sds_cons (sd_for 1024 PassesOwn.never rfl (pid_range1 (by rfl) g.b_range (pad_cons (pd_callB call_lenA cd_len (by rfl) g.b_len boot_len (phd_cons ((pd_var (pv 1))).toSh phd_nil)) pad_nil)) (pgd_name (i := 5) nd rfl (.inl rfl)) (sds_cons (sd_putK (ru1 hr) (pv 3) (pd_var (pv 5)) ((pd_lrange2 rfl (by rfl) g.b_list (by rfl) g.b_range (pd_callB call_lenA cd_len (by rfl) g.b_len boot_len (phd_cons ((pd_var (pv 4))).toSh phd_nil)) (pd_op op_addA od_add ((pd_callB call_lenA cd_len (by rfl) g.b_len boot_len (phd_cons ((pd_var (pv 4))).toSh phd_nil))).toSh ((pd_ix (ix_all (ru1 hr)) od_ix ((pd_var (pv 2))).toSh ((pd_var (pv 5))).toSh (fun _ _ => rfl))).toSh))).frz) (sds_cons (sd_asg (i := 4) (pd_op op_addA od_add ((pd_var (pv 4))).toSh ((pd_op op_mulA od_mul ((pd_lst (pad_cons (pd_var (pv 5)) pad_nil))).toSh ((pd_ix (ix_all (ru1 hr)) od_ix ((pd_var (pv 2))).toSh ((pd_var (pv 5))).toSh (fun _ _ => rfl))).toSh)).toSh) nd rfl (.inl rfl)) sds_nil))) (sds_cons (sd_asgO (i := 6) (pd_lst pad_nil) nd rfl (.inl rfl)) (sds_cons (sd_for 1024 PassesOwn.never rfl (pid_tup (pd_var (pv 0))) (pgd_name (i := 7) nd rfl (.inl rfl)) (sds_cons (sd_asg (i := 8) ((pd_lst pad_nil)).frz nd rfl (.inl rfl)) (sds_cons (sd_for 1024 PassesOwn.never rfl (pid_tup (pd_var (pv 7))) (pgd_name (i := 5) nd rfl (.inl rfl)) (sds_cons (sd_asg (i := 8) (pd_op op_addA od_add ((pd_var (pv 8))).toSh ((pd_ix (ix_all (ru1 hr)) od_ix (pd_varS (pv 3)) ((pd_var (pv 5))).toSh (fun _ _ => rfl))).toSh) nd rfl (.inl rfl)) sds_nil)) (sds_cons (sd_app (pv 6) (pd_callTy call_tuple_ofF cd_tup (by rfl) g.b_tuple boot_tuple (phd_cons ((pd_var (pv 8))).toSh phd_nil))) sds_nil)))) (sds_cons (sd_ret ((pd_lst (pad_cons (pd_callTy call_tuple_ofF cd_tup (by rfl) g.b_tuple boot_tuple (phd_cons (pd_varS (pv 6)) phd_nil)) (pad_cons (pd_callTy call_tuple_ofF cd_tup (by rfl) g.b_tuple boot_tuple (phd_cons ((pd_lc 1024 rfl nd (pid_list (pd_var (pv 4))) (blkOk_by (own := [("right", 5)]) (by kernel_rfl)) (fun _ _ _ _ _ => (pgd_name (i := 5) nd rfl (by first | exact .inl rfl | exact .inr rfl))) (fun _ _ _ _ _ => ptsd_nil) (fun _ _ _ _ _ => (pd_ix (ix_all (ru1 hr)) od_ix ((pd_var (pv 1))).toSh ((pd_var (pv 5))).toSh (fun _ _ => rfl))))).toSh phd_nil)) (pad_cons (pd_var (pv 4)) pad_nil))))).frz) sds_nil))))) (by decide), fun ds Q h => ?_⟩
  obtain ⟨A, B, S, rfl, hs, hS, hS2, hQ⟩ := h
  have hn : A.length ≤ 20 := hs.1.2.1
  have hm : B.length ≤ 20 := hs.2.1.2.1
  have hlen : ∀ n, n ≤ 20 → (ownersL S n).length ≤ 400 := fun n hn => Nat.le_trans (ownersL_len hS2 n) (Nat.mul_le_mul_right 20 hn)
  simp
  refine for_r1 (n := B.length) (fun P h => by simpa using h) (by omega) (by omega) (fun i ε => ∃ x5 : Sl, ε = [.val (rks A), .val (rks B), .val (rk S), .own (.dct (ksN (numD S) i)), .val (.lst ((ownersL S i).map nD)), x5, .off, .off, .off]) ⟨.off, by simp [ksN, ownersL]⟩ (fun i ε hi ⟨x5, hε⟩ => ?_) (fun ε ⟨x5, hε⟩ => ?_)
  · subst hε
    have h4 := hlen i (by omega)
    have h5 := at0_le hS2 i
    have q1 : ∀ R, fIx (rk S) (Dat.int (i : Int)) R = R (nD (at0 S i)) := fun R => fIx_rk (by omega)
    simp
    have q2 : ∀ (a : Int) (b : Nat) R, fAdd (.int a) (nD b) R = R (.int (a + b)) := fun a b R => o_Aii
    have q3 : ∀ (xs : List Dat) (b : Nat) R, fMul (.lst xs) (nD b) R = ((b : Int) < 1000 ∧ -1000 < (b : Int) ∧ xs.length ≤ 100 ∧ R (.lst (List.replicate (b : Int).toNat xs).flatten)) := fun xs b R => o_Mli
    rw [q1, q2]
    refine ⟨_, rfl, by omega, by omega, by omega, .inl (i : Int), rfl, by simp [ksN]; omega, ?_⟩
    rw [q1, q3]
    refine ⟨by omega, by omega, by simp, ?_⟩
    simp
    refine ⟨by omega, ?_, ?_⟩
    · rw [← ksN_put]
      congr 1
      unfold numD numsL rngD startL
      congr 1
      rw [List.map_map]
      have e : ((ownersL S i).length + (at0 S i : Int)).toNat - (ownersL S i).length = at0 S i := by omega
      rw [e]
      apply List.map_congr_left
      intro k _
      simp [nD]
    · rw [ownersL_succ]
      simp [nD]
  · subst hε
    simp
    refine for_tup (ds := A.map rk) (fun P h => ⟨_, rfl, h⟩) (by simp; omega) (fun i ε => ∃ x5 x7 x8 : Sl, ε = [.val (rks A), .val (rks B), .val (rk S), .own (.dct (ksN (numD S) B.length)), .val (.lst ((ownersL S B.length).map nD)), x5, .own (.lst ((splA (A.take i) S).map rk)), x7, x8]) ⟨x5, .off, .off, by simp [splA]⟩ (fun i d ε hd ⟨x5, x7, x8, hε⟩ => ?_) (fun ε ⟨x5, x7, x8, hε⟩ => ?_)
    · obtain ⟨hi, rfl⟩ := map_rks_get hd
      subst hε
      have hrow := hs.1.2.2 _ (row_mem hi)
      have hrow2 := hs.2.2 _ (row_mem hi)
      simp
      refine for_tup (ds := (row A i).map nD) (fun P h => ⟨_, rfl, h⟩) (by have := hrow.len; simp; omega) (fun j ε => ∃ x5 : Sl, ε = [.val (rks A), .val (rks B), .val (rk S), .own (.dct (ksN (numD S) B.length)), .val (.lst ((ownersL S B.length).map nD)), x5, .own (.lst ((splA (A.take i) S).map rk)), .val (rk (row A i)), .val (.lst ((((row A i).take j).flatMap (numsL S)).map nD))]) ⟨x5, by simp⟩ (fun j d ε hd ⟨x5, hε⟩ => ?_) (fun ε ⟨x5, hε⟩ => ?_)
      · obtain ⟨hj, hj2, rfl⟩ := map_nD_get hd
        subst hε
        simp
        refine ⟨_, ksN_look (hrow2 _ (List.mem_of_getElem? hj2)), ?_⟩
        unfold numD
        have hl1 : ∀ r, (numsL S r).length ≤ 20 := fun r => by simp [numsL]; exact at0_le hS2 r
        have hl2 := fm_len hl1 ((row A i).take j)
        have hl3 : ((row A i).take j).length ≤ 20 := by have := hrow.len; simp; omega
        have hl4 := hl1 (at0 (row A i) j)
        simp only [o_All, List.length_map]
        refine ⟨by have := Nat.mul_le_mul_right 20 hl3; omega, ?_⟩
        rw [List.take_add_one, hj2]
        simp
      · subst hε
        simp
        refine ⟨by simp [splA]; omega, ?_⟩
        rw [splA_take hi]
        simp [rk]
    · subst hε
      simp
      refine lc_lst (ownersL S B.length) nD (fun r => some (rk (row B r))) (fun P h => ⟨_, rfl, h⟩) (by have := hlen B.length (by omega); omega) (fun r hr R hR => ?_) ?_
      · have hrB : r < B.length := by
          obtain ⟨q, h1, h2⟩ := List.mem_flatMap.mp hr
          rw [(List.mem_replicate.mp h2).2]
          exact List.mem_range.mp h1
        simp
        rw [fIx_rks hrB]
        exact hR
      · rw [fm_map]
        simp
        have e : rks (splB B S) = Dat.tup (List.map (fun r => rk (row B r)) (ownersL S B.length)) := by
          unfold rks splB
          rw [List.map_map]
          rfl
        rw [e] at hQ
        exact hQ
end
end K90
set_option maxRecDepth 100000
set_option maxHeartbeats 4000000
namespace K90
open PySem PySem.Spec PyProof.Rows L2 RZ DL
open C8 (call_isC pe_gc InsC)
open M90
def goodD : Nat → Dat → Prop
  | 0, d => d = .non ∨ (∃ b, d = .bl b) ∨ ∃ i, d = .int i
  | n + 1, d => (d = .non ∨ (∃ b, d = .bl b) ∨ ∃ i, d = .int i) ∨ ∃ xs, (d = .tup xs ∨ d = .lst xs) ∧ xs.length ≤ 100 ∧ ∀ x ∈ xs, goodD n x
def S_same : Nat → List Dat → (Dat → Prop) → Prop
  | 0, _, _ => False
  | n + 1, ds, P => (∃ d, ds = [d, d] ∧ goodD n d ∧ P (.bl true)) ∨ ∃ xs, ds = [.lst xs, .lst []] ∧ P (.bl (decide (xs = [])))
theorem len_same (n : Nat) (ds : List Dat) (Q : Dat → Prop) (h : S_same (n + 1) ds Q) : ds.length = P__law_same.length := by
  rcases h with ⟨d, rfl, _⟩ | ⟨xs, rfl, _⟩ <;> rfl
theorem fm_none {α β : Type} (l : List α) : (l.filterMap fun _ => (none : Option β)) = [] := by
  induction l with
  | nil => rfl
  | cons a l ih => simp
theorem ok_never {P : Program} {w : World} {K : PySem.W.Frag} {mg : Str → Option Value} {base : Heap} {f : Addr} {fd : FuncData} {ps : List Str} : FnOk P w K mg base L2.CX0 0 f fd ps (spF 0 (S_same 0)) :=
  ⟨fun vs H Q E ⟨_, _, _, _, _, _, _, _, _, _, h, _⟩ => h.elim, fun A outer s H args us vs Q E _ _ _ _ ⟨_, _, _, _, _, _, _, _, _, _, h, _⟩ => h.elim⟩
section
variable {P : Program} {w : World} {K : PySem.W.Frag} {mg : Str → Option Value} {base : Heap}
theorem ok_same (g : Fx K mg) : ∀ n, FnOk P w K mg base L2.CX0 n g.f__law_same g.fd__law_same P__law_same (spF 0 (S_same n)) := by
  intro n
  induction n with
  | zero => exact ok_never
  | succ n ih =>
  skip
  refine okD g.F__law_same sc__law_same (len_same n) (fun cdv A outer s H E hr => ?_)
  have nd := (sc__law_same).nd
  refine ⟨_, SDs.cost (sds_cons (sd_if ((pwd_or (ptd_cmp op_isA od_is ((pd_var (pv 1))).toSh (pd_non).toSh (nomark _)) (pwd_or1 (ptd_val (pd_callB call_isi cd_isi (by rfl) g.b_isinstance boot_isinstance (phd_cons ((pd_var (pv 1))).toSh (phd_cons ((pd_ty (pe_bltn (by rfl) g.b_bool boot_bool rfl))).toSh phd_nil))))))).pt (sds_cons (sd_ret (pd_if (ptd_cmp op_isA od_is ((pd_var (pv 1))).toSh (pd_non).toSh (nomark _)) (pd_cmp op_isA od_is ((pd_var (pv 0))).toSh (pd_non).toSh (nomark _)) (pd_and (pd_callB call_isi cd_isi (by rfl) g.b_isinstance boot_isinstance (phd_cons ((pd_var (pv 0))).toSh (phd_cons ((pd_ty (pe_bltn (by rfl) g.b_bool boot_bool rfl))).toSh phd_nil))) (pd_one (pd_cmp (op_eqD (ru0 hr)) od_eq ((pd_cmp op_isA od_is ((pd_var (pv 0))).toSh (pd_bl).toSh (nomark _))).toSh ((pd_cmp op_isA od_is ((pd_var (pv 1))).toSh (pd_bl).toSh (nomark _))).toSh (nomark _)))))) sds_nil) sds_nil) (sds_cons (sd_if (ptd_val (pd_callB call_isi cd_isi (by rfl) g.b_isinstance boot_isinstance (phd_cons ((pd_var (pv 1))).toSh (phd_cons ((pd_ty (pe_bltn (by rfl) g.b_int boot_int rfl))).toSh phd_nil)))) (sds_cons (sd_ret (pd_and (pd_callB call_isi cd_isi (by rfl) g.b_isinstance boot_isinstance (phd_cons ((pd_var (pv 0))).toSh (phd_cons ((pd_ty (pe_bltn (by rfl) g.b_int boot_int rfl))).toSh phd_nil))) (pd_and (pd_not (pd_callB call_isi cd_isi (by rfl) g.b_isinstance boot_isinstance (phd_cons ((pd_var (pv 0))).toSh (phd_cons ((pd_ty (pe_bltn (by rfl) g.b_bool boot_bool rfl))).toSh phd_nil)))) (pd_one (pd_cmp (op_eqD (ru0 hr)) od_eq ((pd_op op_sub od_I0 ((pd_callTy call_int1 cd_int (by rfl) g.b_int boot_int (phd_cons ((pd_var (pv 0))).toSh phd_nil))).toSh ((pd_var (pv 1))).toSh)).toSh (pd_int).toSh (nomark _)))))) sds_nil) sds_nil) (sds_cons (sd_if (ptd_val (pd_callB call_isi cd_isi (by rfl) g.b_isinstance boot_isinstance (phd_cons ((pd_var (pv 1))).toSh (phd_cons ((pd_ty (pe_bltn (by rfl) g.b_str boot_str rfl))).toSh phd_nil)))) (sds_cons (sd_ret (pd_and (pd_callB call_isi cd_isi (by rfl) g.b_isinstance boot_isinstance (phd_cons ((pd_var (pv 0))).toSh (phd_cons ((pd_ty (pe_bltn (by rfl) g.b_str boot_str rfl))).toSh phd_nil))) (pd_and (pd_cmp (op_eqD (ru0 hr)) od_eq ((pd_callB call_lenA cd_len (by rfl) g.b_len boot_len (phd_cons ((pd_var (pv 0))).toSh phd_nil))).toSh ((pd_callB call_lenA cd_len (by rfl) g.b_len boot_len (phd_cons ((pd_var (pv 1))).toSh phd_nil))).toSh (nomark _)) (pd_one (pd_cmp (op_eqD (ru0 hr)) od_eq ((pd_lc 1024 rfl nd (pid_range1 (by rfl) g.b_range (pad_cons (pd_callB call_lenA cd_len (by rfl) g.b_len boot_len (phd_cons ((pd_var (pv 1))).toSh phd_nil)) pad_nil)) (blkOk_by (own := [("k", 2)]) (by kernel_rfl)) (fun _ _ _ _ _ => (pgd_name (i := 2) nd rfl (by first | exact .inl rfl | exact .inr rfl))) (fun _ _ _ _ _ => (ptsd_one (ptd_cmp (op_neD (ru0 hr)) od_ne ((pd_ix (ix_all (ru1 hr)) od_ix ((pd_var (pv 0))).toSh ((pd_var (pv 2))).toSh (fun _ _ => rfl))).toSh ((pd_ix (ix_all (ru1 hr)) od_ix ((pd_var (pv 1))).toSh ((pd_var (pv 2))).toSh (fun _ _ => rfl))).toSh (nomark _)))) (fun _ _ _ _ _ => (pd_var (pv 2))))).toSh ((pd_lst pad_nil)).toSh (nomark _)))))) sds_nil) sds_nil) (sds_cons (sd_if ((pwd_or (ptd_not (ptd_val (pd_callB call_isiTF cd_isi2 (by rfl) g.b_isinstance boot_isinstance (phd_cons ((pd_var (pv 1))).toSh (phd_cons ((pd_tup (pad_cons (pd_ty (pe_bltn (by rfl) g.b_list boot_list rfl)) (pad_cons (pd_ty (pe_bltn (by rfl) g.b_tuple boot_tuple rfl)) pad_nil)))).toSh phd_nil))))) (pwd_or1 (ptd_not (ptd_val (pd_callB call_isiTF cd_isi2 (by rfl) g.b_isinstance boot_isinstance (phd_cons ((pd_var (pv 0))).toSh (phd_cons ((pd_tup (pad_cons (pd_ty (pe_bltn (by rfl) g.b_list boot_list rfl)) (pad_cons (pd_ty (pe_bltn (by rfl) g.b_tuple boot_tuple rfl)) pad_nil)))).toSh phd_nil)))))))).pt (sds_cons (sd_ret (pd_and (pd_callB call_isi cd_isi (by rfl) g.b_isinstance boot_isinstance (phd_cons ((pd_var (pv 1))).toSh (phd_cons ((pd_ty (pe_bltn (by rfl) g.b_dict boot_dict rfl))).toSh phd_nil))) (pd_and (pd_callB call_isi cd_isi (by rfl) g.b_isinstance boot_isinstance (phd_cons ((pd_var (pv 0))).toSh (phd_cons ((pd_ty (pe_bltn (by rfl) g.b_dict boot_dict rfl))).toSh phd_nil))) (pd_one (pd_cmp (op_eqD (ru0 hr)) od_eq ((pd_callB call_lenA cd_len (by rfl) g.b_len boot_len (phd_cons ((pd_var (pv 0))).toSh phd_nil))).toSh ((pd_callB call_lenA cd_len (by rfl) g.b_len boot_len (phd_cons ((pd_var (pv 1))).toSh phd_nil))).toSh (nomark _)))))) sds_nil) sds_nil) (sds_cons (sd_if ((pwd_or (ptd_cmp (op_neD (ru0 hr)) od_ne ((pd_callB call_isi cd_isi (by rfl) g.b_isinstance boot_isinstance (phd_cons ((pd_var (pv 0))).toSh (phd_cons ((pd_ty (pe_bltn (by rfl) g.b_list boot_list rfl))).toSh phd_nil)))).toSh ((pd_callB call_isi cd_isi (by rfl) g.b_isinstance boot_isinstance (phd_cons ((pd_var (pv 1))).toSh (phd_cons ((pd_ty (pe_bltn (by rfl) g.b_list boot_list rfl))).toSh phd_nil)))).toSh (nomark _)) (pwd_or1 (ptd_cmp (op_neD (ru0 hr)) od_ne ((pd_callB call_lenA cd_len (by rfl) g.b_len boot_len (phd_cons ((pd_var (pv 0))).toSh phd_nil))).toSh ((pd_callB call_lenA cd_len (by rfl) g.b_len boot_len (phd_cons ((pd_var (pv 1))).toSh phd_nil))).toSh (nomark _))))).pt (sds_cons (sd_ret pd_bl) sds_nil) sds_nil) (sds_cons (sd_ret (pd_cmp (op_eqD (ru0 hr)) od_eq ((pd_lc 1024 rfl nd (pid_range1 (by rfl) g.b_range (pad_cons (pd_callB call_lenA cd_len (by rfl) g.b_len boot_len (phd_cons ((pd_var (pv 1))).toSh phd_nil)) pad_nil)) (blkOk_by (own := [("k", 2)]) (by kernel_rfl)) (fun _ _ _ _ _ => (pgd_name (i := 2) nd rfl (by first | exact .inl rfl | exact .inr rfl))) (fun _ _ _ _ _ => (ptsd_one (ptd_not (ptd_val (pd_call ih hr (by rfl) g.g__law_same g.F__law_same.kp (b__law_same g) (pad_cons (pd_ix (ix_all (ru1 hr)) od_ix ((pd_var (pv 0))).toSh ((pd_var (pv 2))).toSh (fun _ _ => rfl)) (pad_cons (pd_ix (ix_all (ru1 hr)) od_ix ((pd_var (pv 1))).toSh ((pd_var (pv 2))).toSh (fun _ _ => rfl)) pad_nil))))))) (fun _ _ _ _ _ => (pd_var (pv 2))))).toSh ((pd_lst pad_nil)).toSh (nomark _))) sds_nil)))))) (by decide), fun ds Q h => ?_⟩
  rcases h with ⟨d, rfl, hd, hQ⟩ | ⟨xs, rfl, hQ⟩
  · have hd' : (d = .non ∨ (∃ b, d = .bl b) ∨ ∃ i, d = .int i) ∨ ∃ m xs, n = m + 1 ∧ (d = .tup xs ∨ d = .lst xs) ∧ xs.length ≤ 100 ∧ ∀ x ∈ xs, goodD m x := by
      cases n with
      | zero => exact .inl hd
      | succ m =>
        rcases hd with h | ⟨xs, h⟩
        · exact .inl h
        · exact .inr ⟨m, xs, rfl, h⟩
    rcases hd' with (rfl | ⟨b, rfl⟩ | ⟨i, rfl⟩) | ⟨m, xs, rfl, rfl | rfl, hl, hx⟩
    · simp
      exact .inr ⟨rfl, .inr ⟨rfl, hQ⟩⟩
    · simp
      have e : eqD (Dat.bl b) (Dat.bl b) = true := by cases b <;> rfl
      rw [e]
      exact .inl ⟨rfl, hQ⟩
    · simp
      exact .inl ⟨rfl, hQ⟩
    · simp
      refine .inl ⟨rfl, .inl ⟨rfl, ?_⟩⟩
      refine lc_r1 (n := xs.length) (fun _ => none) (fun P h => by simpa using h) (by omega) (by omega) (fun a ha R hR => ?_) ?_
      · simp
        refine ⟨xs[a], atI_nat (List.getElem?_eq_getElem ha), xs[a], atI_nat (List.getElem?_eq_getElem ha), .inl ⟨xs[a], rfl, hx _ (List.getElem_mem _), ?_⟩⟩
        simp
        exact hR
      · rw [fm_none]
        exact ⟨rfl, hQ⟩
    · simp
      refine .inl ⟨rfl, .inl ⟨rfl, ?_⟩⟩
      refine lc_r1 (n := xs.length) (fun _ => none) (fun P h => by simpa using h) (by omega) (by omega) (fun a ha R hR => ?_) ?_
      · simp
        refine ⟨xs[a], atI_nat (List.getElem?_eq_getElem ha), xs[a], atI_nat (List.getElem?_eq_getElem ha), .inl ⟨xs[a], rfl, hx _ (List.getElem_mem _), ?_⟩⟩
        simp
        exact hR
      · rw [fm_none]
        exact ⟨rfl, hQ⟩
  · simp
    refine .inl ⟨rfl, .inl ⟨rfl, ?_⟩⟩
    by_cases e : xs = []
    · subst e
      refine .inl ⟨rfl, ?_⟩
      refine lc_r1 (n := 0) (fun _ => none) (fun P h => by simpa using h) (by omega) (by omega) (fun a ha R hR => by omega) ?_
      exact ⟨rfl, hQ⟩
    · simp [e] at hQ
      exact .inr ⟨e, hQ⟩
theorem ok__law_same (g : Fx K mg) : FnOk P w K mg base L2.CX0 5 g.f__law_same g.fd__law_same P__law_same (spF 0 (S_same 5)) := ok_same g 5
end
end K90
set_option maxRecDepth 100000
set_option maxHeartbeats 2000000
/-! M8: more seats; the same lefts are seated in every stable outcome. -/
namespace K90
open PySem PySem.Spec PyProof.Rows L2 RZ DL M90
theorem Ch_more {V : PL} {r q : Nat} {A : Nat → Bool} {l : Nat} (hq : q < V.seats.length) (h : l ∈ ChL V q A) : l ∈ ChL (moreSeat V r) q A := by
  unfold ChL at *
  by_cases e : q = r
  · subst e
    have : at0 (moreSeat V q).seats q = at0 V.seats q + 1 := at0_set_same hq
    rw [this]
    exact grd_seat h
  · have : at0 (moreSeat V r).seats q = at0 V.seats q := at0_set_ne e
    rw [this]
    exact h
theorem core_more {V : PL} (ok : V.Ok) {r : Nat} {ν : Nat → Option Nat} (h : Core V ν) : Core (moreSeat V r) ν := fun q A l0 hq hA h0 hν =>
  Ch_more (by rw [ok.se.1]; exact hq) (h q A l0 hq hA h0 hν)
/-- nobody loses by one more seat -/
theorem more_law {V : PL} (ok : V.Ok) {r : Nat} {o o' : List (Option Nat)} (io : IsOut V o) (nb : ∀ l r, ¬ Blk V o l r) (b : BestP (moreSeat V r) o') (l s : Nat) (h : oat o l = some s) :
    ∃ t, oat o' l = some t ∧ ixo (row V.lefts l) t ≤ ixo (row V.lefts l) s := by
  have st := stab_of ok io nb
  obtain ⟨h1, h2, _⟩ := st.ir l s h
  exact b _ (core_more ok (core_of ok st)) l s h1 h h2
/-! ### whom a right would have -/
def wantB (V : PL) (ν : Nat → Option Nat) (r : Nat) : Nat → Bool := fun l => decide (r ∈ row V.lefts l) && (decide (ν l = some r) || abB (row V.lefts l) r (ν l))
theorem wantB_iff {V : PL} {ν : Nat → Option Nat} {r l : Nat} : wantB V ν r l = true ↔ r ∈ row V.lefts l ∧ (ν l = some r ∨ abB (row V.lefts l) r (ν l) = true) := by
  simp [wantB]
theorem stab_want {V : PL} (ok : V.Ok) {ν : Nat → Option Nat} (st : StabP V ν) {r l : Nat} (hr : r < V.rights.length) : l ∈ ChL V r (wantB V ν r) ↔ ν l = some r := by
  constructor
  · intro h
    obtain ⟨h1, h2⟩ := Ch_in h
    obtain ⟨h3, h4⟩ := wantB_iff.mp h2
    rcases h4 with h4 | h4
    · exact h4
    · have hl := (row_lt ok h3).1
      refine (st.nb l r hl h3 h4 (Ch_sub ok hr (fun x hx => ?_) h (by simp))).elim
      rcases (by simpa using hx : ν x = some r ∨ x = l) with q | q
      · exact wantB_iff.mpr ⟨(st.ir x r q).2.1, .inl q⟩
      · subst q; exact h2
  · intro h
    obtain ⟨h1, h2, h3⟩ := st.ir l r h
    exact core_of ok st r _ l hr (fun x hx => ⟨(row_lt ok (wantB_iff.mp hx).1).1, wantB_iff.mp hx⟩) (wantB_iff.mpr ⟨h2, .inl h⟩) h
theorem perm_len {xs ys : List Nat} (hx : xs.Nodup) (hy : ys.Nodup) (h : ∀ a, a ∈ xs ↔ a ∈ ys) : xs.length = ys.length := (List.perm_ext_iff_of_nodup hx hy |>.mpr h).length_eq
def seatN (V : PL) (ν : Nat → Option Nat) (r : Nat) : Nat := ((List.range V.lefts.length).filter fun l => decide (ν l = some r)).length
theorem seatN_want {V : PL} (ok : V.Ok) {ν : Nat → Option Nat} (st : StabP V ν) {r : Nat} (hr : r < V.rights.length) : seatN V ν r = (ChL V r (wantB V ν r)).length := by
  refine perm_len (List.Pairwise.filter _ List.nodup_range) (Ch_nd ok hr) fun a => ?_
  rw [stab_want ok st hr]
  simp
  exact fun h => (st.ir a r h).1
theorem sum_inc {m x : Nat} (hx : x < m) (a : Nat → Nat) : ((List.range m).map fun r => a r + if x = r then 1 else 0).sum = ((List.range m).map a).sum + 1 := by
  induction m with
  | zero => omega
  | succ m ih =>
    rw [List.range_succ, List.map_append, List.map_append, List.sum_append, List.sum_append]
    by_cases e : x = m
    · subst e
      have : ((List.range x).map fun r => a r + if x = r then 1 else 0) = (List.range x).map a := by
        apply List.map_congr_left
        intro r hr
        have := List.mem_range.mp hr
        rw [if_neg (by omega)]
        rfl
      rw [this]
      simp
      omega
    · rw [ih (by omega)]
      simp [e]
      omega
theorem sum_same {m : Nat} (a : Nat → Nat) {x : Nat} (hx : m ≤ x) : ((List.range m).map fun r => a r + if x = r then 1 else 0).sum = ((List.range m).map a).sum := by
  congr 1
  apply List.map_congr_left
  intro r hr
  have := List.mem_range.mp hr
  rw [if_neg (by omega)]
  rfl
theorem sum_zero (m : Nat) : ((List.range m).map fun _ => 0).sum = 0 := by
  induction m with
  | zero => rfl
  | succ m ih => rw [List.range_succ, List.map_append, List.sum_append, ih]; rfl
theorem count_all {n m : Nat} {f : Nat → Option Nat} (h : ∀ l r, f l = some r → r < m) :
    ((List.range n).filter fun l => (f l).isSome).length = ((List.range m).map fun r => ((List.range n).filter fun l => decide (f l = some r)).length).sum := by
  induction n with
  | zero => simp [sum_zero]
  | succ n ih =>
    rw [List.range_succ, List.filter_append, List.length_append, ih]
    have e : (fun r => ((List.range n ++ [n]).filter fun l => decide (f l = some r)).length) = fun r => ((List.range n).filter fun l => decide (f l = some r)).length + if f n = some r then 1 else 0 := by
      funext r
      rw [List.filter_append, List.length_append]
      by_cases q : f n = some r <;> simp [q]
    rw [e]
    cases q : f n with
    | none => simp [q]
    | some x =>
      have e2 : (fun r => ((List.range n).filter fun l => decide (f l = some r)).length + if some x = some r then 1 else 0) = fun r => ((List.range n).filter fun l => decide (f l = some r)).length + if x = r then 1 else 0 := by
        funext r
        simp
      rw [e2, sum_inc (h n x q)]
      simp [q]
theorem sum_mono {m : Nat} {a b : Nat → Nat} (h : ∀ r, r < m → a r ≤ b r) : ((List.range m).map a).sum ≤ ((List.range m).map b).sum := by
  induction m with
  | zero => simp
  | succ m ih =>
    rw [List.range_succ, List.map_append, List.map_append, List.sum_append, List.sum_append]
    have := ih fun r hr => h r (by omega)
    have := h m (by omega)
    simp
    omega
theorem count_sub {n : Nat} {p q : Nat → Bool} (hpq : ∀ x, x < n → p x = true → q x = true) (hc : ((List.range n).filter q).length ≤ ((List.range n).filter p).length) : ∀ x, x < n → q x = true → p x = true := by
  induction n with
  | zero => intro x hx; omega
  | succ n ih =>
    have mono : ((List.range n).filter p).length ≤ ((List.range n).filter q).length := by
      have : ((List.range n).filter p).Sublist ((List.range n).filter q) := by
        have e : (List.range n).filter p = ((List.range n).filter q).filter p := by
          rw [List.filter_filter]
          apply List.filter_congr
          intro x hx
          have := hpq x (by have := List.mem_range.mp hx; omega)
          cases h1 : p x <;> simp_all
        rw [e]
        exact List.filter_sublist
      exact this.length_le
    rw [List.range_succ, List.filter_append, List.filter_append, List.length_append, List.length_append] at hc
    have hn := hpq n (by omega)
    intro x hx hq
    by_cases e : x = n
    · subst e
      cases h1 : p x with
      | true => rfl
      | false =>
        simp [hq, h1] at hc
        omega
    · refine ih (fun x hx => hpq x (by omega)) ?_ x (by omega) hq
      cases h1 : p n <;> cases h2 : q n <;> simp [h1, h2] at hc hn <;> omega
/-- the same lefts are seated in every stable outcome -/
theorem rural {V : PL} (ok : V.Ok) {ν μ : Nat → Option Nat} (sν : StabP V ν) (sμ : StabP V μ) (hb : ∀ l s, ν l = some s → ∃ t, μ l = some t ∧ ixo (row V.lefts l) t ≤ ixo (row V.lefts l) s) (l : Nat) (h : (μ l).isSome = true) : (ν l).isSome = true := by
  have hμ : ∀ l r, μ l = some r → r < V.rights.length := fun l r h => (row_lt ok (sμ.ir l r h).2.1).2
  have hν : ∀ l r, ν l = some r → r < V.rights.length := fun l r h => (row_lt ok (sν.ir l r h).2.1).2
  have hl : l < V.lefts.length := by
    cases e : μ l with
    | none => rw [e] at h; cases h
    | some r => exact (sμ.ir l r e).1
  refine count_sub (n := V.lefts.length) (p := fun l => (ν l).isSome) (q := fun l => (μ l).isSome) (fun x _ hx => ?_) ?_ l hl h
  · cases e : ν x with
    | none => rw [e] at hx; cases hx
    | some s =>
      obtain ⟨t, ht, _⟩ := hb x s e
      simp [ht]
  · rw [count_all hμ, count_all hν]
    refine sum_mono fun r hr => ?_
    show seatN V μ r ≤ seatN V ν r
    rw [seatN_want ok sμ hr, seatN_want ok sν hr]
    refine Ch_lad ok hr fun x hx => ?_
    obtain ⟨h1, h2⟩ := wantB_iff.mp hx
    refine wantB_iff.mpr ⟨h1, ?_⟩
    cases e : ν x with
    | none => exact .inr rfl
    | some s =>
      obtain ⟨t, ht, hle⟩ := hb x s e
      rcases h2 with h2 | h2
      · rw [h2] at ht
        cases ht
        rcases Nat.lt_or_eq_of_le hle with q | q
        · right; simpa [abB] using q
        · left; rw [ixo_inj h1 q]
      · rw [ht] at h2
        have : ixo (row V.lefts x) r < ixo (row V.lefts x) t := by simpa [abB] using h2
        right
        have : ixo (row V.lefts x) r < ixo (row V.lefts x) s := by omega
        simpa [abB] using this
end K90
set_option maxRecDepth 100000
set_option maxHeartbeats 2000000
/-! M9: a best outcome exists; nobody gains by a lie. -/
namespace K90
open PySem PySem.Spec PyProof.Rows L2 RZ DL M90
def restT (V : PL) (at' : Nat → Nat) : Nat := ((List.range V.lefts.length).map fun x => (row V.lefts x).length - at' x).sum
theorem dai_end {V : PL} (ok : V.Ok) : ∀ (N : Nat) (at' : Nat → Nat) (held : Nat → List Nat) (W : List Nat), DAI V at' held W → restT V at' * (V.lefts.length + 1) + W.length ≤ N → ∃ at2 held2, DAI V at2 held2 [] := by
  intro N
  induction N with
  | zero =>
    intro at' held W d h
    have : W = [] := List.eq_nil_of_length_eq_zero (by omega)
    subst this
    exact ⟨_, _, d⟩
  | succ N ih =>
    intro at' held W d h
    rcases List.eq_nil_or_concat W with rfl | ⟨W', l, rfl⟩
    · exact ⟨_, _, d⟩
    · rw [List.concat_eq_append] at d h
      have hl : l < V.lefts.length := d.wlt l (by simp)
      by_cases he : at' l = (row V.lefts l).length
      · refine ih _ _ _ (d.drop he) ?_
        simp at h
        omega
      · have hlt : at' l < (row V.lefts l).length := by have := d.atl l; omega
        have d2 := d.ask ok (List.getElem?_eq_getElem hlt)
        have hW := nodup_lt d2.wnd d2.wlt
        refine ih _ _ _ d2 ?_
        have hT : restT V at' = restT V (fun x => if x = l then at' l + 1 else at' x) + 1 := by
          unfold restT
          rw [← sum_inc hl]
          congr 1
          apply List.map_congr_left
          intro x hx
          by_cases e : l = x
          · subst e
            simp
            omega
          · have : ¬ x = l := fun q => e q.symm
            simp [e, this]
        rw [hT, Nat.succ_mul] at h
        omega
theorem best_ex {V : PL} (ok : V.Ok) : ∃ o, IsOut V o ∧ (∀ l r, ¬ Blk V o l r) ∧ BestP V o := by
  obtain ⟨at', held, d⟩ := dai_end ok _ _ _ _ (DAI.init V) (Nat.le_refl _)
  have hlen : ((List.range V.lefts.length).map fun l => (List.range V.rights.length).find? fun r => decide (l ∈ held r)).length = V.lefts.length := by simp
  refine ⟨(List.range V.lefts.length).map fun l => (List.range V.rights.length).find? fun r => decide (l ∈ held r), DAI.done ok d hlen fun l r => ?_⟩
  constructor
  · intro h
    by_cases hl : l < V.lefts.length
    · rw [oat_range hl] at h
      simpa using List.find?_some h
    · rw [oat_out (by rw [hlen]; omega)] at h
      cases h
  · intro h
    obtain ⟨h1, h2, h3, h4⟩ := d.hat r l h
    rw [oat_range h1]
    have hr : r < V.rights.length := (row_lt ok (List.mem_of_getElem? h4)).2
    cases e : (List.range V.rights.length).find? fun r => decide (l ∈ held r) with
    | none =>
      rw [List.find?_eq_none] at e
      exact (e r (List.mem_range.mpr hr) (by simpa using h)).elim
    | some q =>
      have hq : l ∈ held q := by simpa using List.find?_some e
      obtain ⟨_, _, _, q4⟩ := d.hat q l hq
      rw [h4] at q4
      exact q4.symm
theorem rowA_same {A : List (List Nat)} {l : Nat} {k : List Nat} (h : l < A.length) : row (A.set l k) l = k := by simp [row, h]
theorem rowA_ne {A : List (List Nat)} {l x : Nat} {k : List Nat} (h : x ≠ l) : row (A.set l k) x = row A x := by
  unfold row
  rw [List.getD_eq_getElem?_getD, List.getD_eq_getElem?_getD, List.getElem?_set_ne (Ne.symm h)]
theorem lie_row {V : PL} {l : Nat} {k : List Nat} (h : l < V.lefts.length) : row (lieV V l k).lefts l = k := rowA_same h
theorem lie_row_ne {V : PL} {l x : Nat} {k : List Nat} (h : x ≠ l) : row (lieV V l k).lefts x = row V.lefts x := rowA_ne h
theorem lie_len {V : PL} {l : Nat} {k : List Nat} : (lieV V l k).lefts.length = V.lefts.length := by simp [lieV]
theorem lie_Ch {V : PL} {l r : Nat} {k : List Nat} {A : Nat → Bool} : ChL (lieV V l k) r A = ChL V r A := rfl
theorem lie_self {V : PL} {l : Nat} (h : l < V.lefts.length) : lieV V l (row V.lefts l) = V := by
  have : V.lefts.set l (row V.lefts l) = V.lefts := by
    apply List.ext_getElem?
    intro i
    by_cases e : i = l
    · subst e
      rw [List.getElem?_set_self h]
      simp [row, h]
    · rw [List.getElem?_set_ne (Ne.symm e)]
  unfold lieV
  rw [this]
/-- another ranking with nothing new above one's seat -/
theorem relie {V : PL} {l r : Nat} {k1 k2 : List Nat} {ν : Nat → Option Nat} (hl : l < V.lefts.length) (st : StabP (lieV V l k1) ν) (h : ν l = some r) (hr : r ∈ k2) (ha : ∀ s, s ∈ k2 → ixo k2 s < ixo k2 r → s ∈ k1 ∧ ixo k1 s < ixo k1 r) : StabP (lieV V l k2) ν where
  ir := fun x q hx => by
    obtain ⟨h1, h2, h3⟩ := st.ir x q hx
    rw [lie_len] at h1 ⊢
    refine ⟨h1, ?_, h3⟩
    by_cases e : x = l
    · subst e
      rw [h] at hx
      cases hx
      rw [lie_row hl]
      exact hr
    · rw [lie_row_ne e] at h2 ⊢
      exact h2
  nb := fun x q hx hq hab => by
    rw [lie_len] at hx
    by_cases e : x = l
    · subst e
      rw [lie_row hl] at hq hab
      rw [h] at hab
      obtain ⟨a1, a2⟩ := ha q hq (by simpa [abB] using hab)
      exact st.nb x q (by rw [lie_len]; exact hx) (by rw [lie_row hl]; exact a1) (by rw [lie_row hl, h]; simpa [abB] using a2)
    · rw [lie_row_ne e] at hq hab
      exact st.nb x q (by rw [lie_len]; exact hx) (by rw [lie_row_ne e]; exact hq) (by rw [lie_row_ne e]; exact hab)
theorem relie0 {V : PL} {l : Nat} {k1 k2 : List Nat} {ν : Nat → Option Nat} (hl : l < V.lefts.length) (st : StabP (lieV V l k1) ν) (h : ν l = none) (ha : ∀ s, s ∈ k2 → s ∈ k1) : StabP (lieV V l k2) ν where
  ir := fun x q hx => by
    obtain ⟨h1, h2, h3⟩ := st.ir x q hx
    rw [lie_len] at h1 ⊢
    refine ⟨h1, ?_, h3⟩
    have e : x ≠ l := fun e => by rw [e, h] at hx; cases hx
    rw [lie_row_ne e] at h2 ⊢
    exact h2
  nb := fun x q hx hq hab => by
    rw [lie_len] at hx
    by_cases e : x = l
    · subst e
      rw [lie_row hl] at hq
      exact st.nb x q (by rw [lie_len]; exact hx) (by rw [lie_row hl]; exact ha q hq) (by rw [h]; rfl)
    · rw [lie_row_ne e] at hq hab
      exact st.nb x q (by rw [lie_len]; exact hx) (by rw [lie_row_ne e]; exact hq) (by rw [lie_row_ne e]; exact hab)
theorem take_ixo {xs : List Nat} (hn : xs.Nodup) {p s : Nat} : s ∈ xs.take p ↔ s ∈ xs ∧ ixo xs s < p := by
  constructor
  · intro h
    obtain ⟨j, hj⟩ := List.getElem?_of_mem h
    have h1 : j < p := by
      have := (List.getElem?_eq_some_iff.mp hj).1
      simp at this
      omega
    rw [List.getElem?_take_of_lt h1] at hj
    exact ⟨List.mem_of_mem_take h, by rw [idx_at hn hj]; exact h1⟩
  · intro ⟨h1, h2⟩
    have := get_ixo h1
    rw [← List.getElem?_take_of_lt h2] at this
    exact List.mem_of_getElem? this
theorem ixo_take {xs : List Nat} (hn : xs.Nodup) {p s : Nat} (h : s ∈ xs.take p) : ixo (xs.take p) s = ixo xs s := by
  obtain ⟨h1, h2⟩ := (take_ixo hn).mp h
  have := get_ixo h1
  rw [← List.getElem?_take_of_lt h2] at this
  exact idx_at (hn.sublist (List.take_sublist _ _)) this
/-- nobody gains by a lie -/
theorem no_gain {V : PL} (ok : V.Ok) {l : Nat} {k : List Nat} (hl : l < V.lefts.length) (hk : RkOk V.rights.length k) {o o' : List (Option Nat)} (b : BestP V o) (io' : IsOut (lieV V l k) o') (nb' : ∀ a r, ¬ Blk (lieV V l k) o' a r)
    {r' : Nat} (h' : oat o' l = some r') (hr' : r' ∈ row V.lefts l) : abB (row V.lefts l) r' (oat o l) = false := by
  have hrow := ok.sd.1.2.2 _ (row_mem hl)
  have hrow2 := ok.sd.2.2 _ (row_mem hl)
  have hm : V.rights.length ≤ 20 := ok.sd.2.1.2.1
  have rkR : ∀ k2 : List Nat, k2.Nodup → (∀ x ∈ k2, x ∈ row V.lefts l) → RkOk V.rights.length k2 := fun k2 h1 h2 => ⟨h1, fun x hx => hrow2 x (h2 x hx), hm⟩
  have st' := stab_of (lieV_ok ok hk) io' nb'
  have ok1 : (lieV V l [r']).Ok := lieV_ok ok (rkR _ (by simp) (by simpa using hr'))
  have st1 : StabP (lieV V l [r']) (oat o') := relie hl st' h' (by simp) fun s hs hlt => by
    have : s = r' := by simpa using hs
    subst this
    omega
  obtain ⟨o1, i1, n1, b1⟩ := best_ex ok1
  have s1 := stab_of ok1 i1 n1
  obtain ⟨t1, ht1, _⟩ := b1 _ (core_of ok1 st1) l r' (by rw [lie_len]; exact hl) h' (by rw [lie_row hl]; simp)
  have ok2 : (lieV V l ((row V.lefts l).take (ixo (row V.lefts l) r' + 1))).Ok := lieV_ok ok (rkR _ (hrow.1.sublist (List.take_sublist _ _)) fun x hx => List.mem_of_mem_take hx)
  obtain ⟨o2, i2, n2, b2⟩ := best_ex ok2
  have s2 := stab_of ok2 i2 n2
  cases e : oat o2 l with
  | none =>
    have s3 : StabP (lieV V l [r']) (oat o2) := relie0 hl s2 e fun s hs => by
      have : s = r' := by simpa using hs
      subst this
      exact (take_ixo hrow.1).mpr ⟨hr', by omega⟩
    have := rural ok1 s3 s1 (fun x s hx => b1 _ (core_of ok1 s3) x s (s3.ir x s hx).1 hx (s3.ir x s hx).2.1) l (by rw [ht1]; rfl)
    rw [e] at this
    cases this
  | some s =>
    have hs : s ∈ (row V.lefts l).take (ixo (row V.lefts l) r' + 1) := by
      have := (s2.ir l s e).2.1
      rwa [lie_row hl] at this
    obtain ⟨hs1, hs2⟩ := (take_ixo hrow.1).mp hs
    have s4 : StabP (lieV V l (row V.lefts l)) (oat o2) := relie hl s2 e hs1 fun t ht hlt => by
      have h5 : t ∈ (row V.lefts l).take (ixo (row V.lefts l) r' + 1) := (take_ixo hrow.1).mpr ⟨ht, by omega⟩
      exact ⟨h5, by rw [ixo_take hrow.1 h5, ixo_take hrow.1 hs]; exact hlt⟩
    rw [lie_self hl] at s4
    obtain ⟨q, hq, hle⟩ := b _ (core_of ok s4) l s hl e hs1
    rw [hq]
    show decide (ixo (row V.lefts l) r' < ixo (row V.lefts l) q) = false
    rw [decide_eq_false_iff_not]
    omega
end K90
set_option maxRecDepth 100000
set_option maxHeartbeats 2000000
/-! M10: best and worst outcomes carried from one market to another. -/
namespace K90
open PySem PySem.Spec PyProof.Rows L2 RZ DL M90
structure Tr (V W : PL) (φ : Nat → Nat) : Prop where
  len : W.lefts.length = V.lefts.length
  mem : ∀ l s, s ∈ row W.lefts l → φ s ∈ row V.lefts l
  ord : ∀ l s t, s ∈ row W.lefts l → t ∈ row W.lefts l → ixo (row W.lefts l) s ≤ ixo (row W.lefts l) t → ixo (row V.lefts l) (φ s) ≤ ixo (row V.lefts l) (φ t)
  down : ∀ e, StabP W e → StabP V fun l => (e l).map φ
  up : ∀ ν, StabP V ν → ∃ e, StabP W e ∧ ∀ l, (e l).map φ = ν l
theorem oat_map {e : List (Option Nat)} {f : Option Nat → Option Nat} (hf : f none = none) (l : Nat) : oat (e.map f) l = f (oat e l) := by
  unfold oat
  rw [List.getD_eq_getElem?_getD, List.getD_eq_getElem?_getD, List.getElem?_map]
  cases e[l]? <;> simp [hf]
theorem out_ext {o e : List (Option Nat)} (h : o.length = e.length) (hx : ∀ l, oat o l = oat e l) : o = e := by
  apply List.ext_getElem?
  intro l
  by_cases hl : l < o.length
  · have h1 := hx l
    have hl2 : l < e.length := by omega
    rw [List.getElem?_eq_getElem hl, List.getElem?_eq_getElem hl2]
    simpa [oat, hl, hl2] using h1
  · rw [List.getElem?_eq_none (by omega), List.getElem?_eq_none (by omega)]
section
variable {V W : PL} {φ : Nat → Nat} {o e : List (Option Nat)}
theorem tr_best (T : Tr V W φ) (okV : V.Ok) (okW : W.Ok) (io : IsOut V o) (no : ∀ l r, ¬ Blk V o l r) (bo : BestP V o) (ie : IsOut W e) (ne : ∀ l r, ¬ Blk W e l r) (be : BestP W e) : o = e.map (Option.map φ) := by
  have so := stab_of okV io no
  have se := stab_of okW ie ne
  obtain ⟨e', s', he'⟩ := T.up _ so
  have sd := T.down _ se
  refine out_ext (by rw [List.length_map, io.len, ie.len, T.len]) fun l => ?_
  rw [oat_map rfl]
  cases h : oat o l with
  | none =>
    cases q : oat e l with
    | none => rfl
    | some s =>
      have hs : (Option.map φ (oat e l)) = some (φ s) := by rw [q]; rfl
      obtain ⟨h1, h2, _⟩ := sd.ir l (φ s) hs
      obtain ⟨r, hr, _⟩ := bo _ (core_of okV sd) l (φ s) h1 hs h2
      rw [h] at hr
      cases hr
  | some r =>
    have ht := he' l
    rw [h] at ht
    cases q' : e' l with
    | none => rw [q'] at ht; cases ht
    | some t =>
      rw [q'] at ht
      have ht : φ t = r := by simpa using ht
      obtain ⟨g1, g2, _⟩ := s'.ir l t q'
      obtain ⟨s, hs, hle⟩ := be _ (core_of okW s') l t g1 q' g2
      have g3 := (se.ir l s hs).2.1
      have hs2 : (Option.map φ (oat e l)) = some (φ s) := by rw [hs]; rfl
      obtain ⟨h1, h2, _⟩ := sd.ir l (φ s) hs2
      obtain ⟨r2, hr2, hle2⟩ := bo _ (core_of okV sd) l (φ s) h1 hs2 h2
      rw [h] at hr2
      cases hr2
      have := T.ord l s t g3 g2 hle
      rw [ht] at this
      rw [hs]
      have : r = φ s := ixo_inj (so.ir l r h).2.1 (by omega)
      rw [this]
      rfl
theorem tr_worst (T : Tr V W φ) (okV : V.Ok) (okW : W.Ok) (io : IsOut V o) (no : ∀ l r, ¬ Blk V o l r) (bo : WorstP V o) (ie : IsOut W e) (ne : ∀ l r, ¬ Blk W e l r) (be : WorstP W e) : o = e.map (Option.map φ) := by
  have so := stab_of okV io no
  have se := stab_of okW ie ne
  obtain ⟨e', s', he'⟩ := T.up _ so
  have sd := T.down _ se
  refine out_ext (by rw [List.length_map, io.len, ie.len, T.len]) fun l => ?_
  rw [oat_map rfl]
  cases h : oat o l with
  | none =>
    cases q : oat e l with
    | none => rfl
    | some s =>
      obtain ⟨t, ht, _⟩ := be _ s' l s q
      have := he' l
      rw [ht, h] at this
      cases this
  | some r =>
    obtain ⟨x, hx, hle⟩ := bo _ sd l r h
    cases q : oat e l with
    | none => rw [q] at hx; cases hx
    | some s =>
      rw [q] at hx
      have hx : φ s = x := by simpa using hx
      obtain ⟨t, ht, hle2⟩ := be _ s' l s q
      have h3 := he' l
      rw [ht, h] at h3
      have h3 : φ t = r := by simpa using h3
      have := T.ord l t s (s'.ir l t ht).2.1 (se.ir l s q).2.1 hle2
      rw [h3] at this
      rw [← hx] at hle
      have : r = φ s := ixo_inj (so.ir l r h).2.1 (by omega)
      rw [this]
      rfl
end
end K90
set_option maxRecDepth 100000
set_option maxHeartbeats 2000000
/-! M11: seats as rights of their own. -/
namespace K90
open PySem PySem.Spec PyProof.Rows L2 RZ DL M90
theorem ixo_cons {a l : Nat} {ρ : List Nat} : ixo (a :: ρ) l = if a = l then 0 else ixo ρ l + 1 := by
  unfold ixo
  rw [List.idxOf_cons]
  by_cases e : a = l
  · simp [e]
  · have : (a == l) = false := by simpa using e
    rw [this, if_neg e]
    rfl
theorem grd_many {gp : Nat → Nat} {S : Nat → Bool} {l : Nat} : ∀ {ρ : List Nat} {s : Nat} {lim : Nat → Nat}, (∀ x ∈ ρ, ρ.length ≤ lim (gp x)) → (l ∈ grd gp ρ s lim S ↔ l ∈ ρ ∧ S l = true ∧ ((ρ.take (ixo ρ l)).filter S).length < s)
  | [], s, lim, _ => by simp [grd]
  | a :: ρ, s, lim, hl => by
    have h1 : 0 < lim (gp a) := by
      have := hl a (by simp)
      simp at this
      omega
    rw [ixo_cons]
    by_cases hs : s = 0
    · subst hs
      rw [grd_zero]
      simp
    by_cases ha : S a = true
    · have hg : grd gp (a :: ρ) s lim S = a :: grd gp ρ (s - 1) (fun g => if g = gp a then lim g - 1 else lim g) S := by
        rw [grd]
        rw [if_pos (by simp [ha, h1]; omega)]
      rw [hg]
      by_cases e : a = l
      · subst e
        simp [ha]
        omega
      · have ih := grd_many (gp := gp) (S := S) (l := l) (ρ := ρ) (s := s - 1) (lim := fun g => if g = gp a then lim g - 1 else lim g) fun x hx => by
          have := hl x (by simp [hx])
          simp at this
          show ρ.length ≤ if gp x = gp a then lim (gp x) - 1 else lim (gp x)
          split <;> omega
        have e' : ¬ l = a := fun q => e q.symm
        simp only [if_neg e, List.mem_cons, e', false_or, ih, List.take_succ_cons, List.filter_cons, ha, if_true, List.length_cons]
        constructor
        · rintro ⟨q1, q2, q3⟩; exact ⟨q1, q2, by omega⟩
        · rintro ⟨q1, q2, q3⟩; exact ⟨q1, q2, by omega⟩
    · have hg : grd gp (a :: ρ) s lim S = grd gp ρ s lim S := by
        rw [grd]
        rw [if_neg (by simp [ha])]
      rw [hg]
      have ih := grd_many (gp := gp) (S := S) (l := l) (ρ := ρ) (s := s) (lim := lim) fun x hx => by
        have := hl x (by simp [hx])
        simp at this
        omega
      rw [ih]
      by_cases e : a = l
      · subst e
        simp [ha]
      · have e' : ¬ l = a := fun q => e q.symm
        simp [e, e', ha]
end K90
set_option maxRecDepth 100000
set_option maxHeartbeats 2000000
/-! M12: whose a seat is. -/
namespace K90
open PySem PySem.Spec PyProof.Rows L2 RZ DL M90
theorem mem_nums {S : List Nat} {r s : Nat} : s ∈ numsL S r ↔ startL S r ≤ s ∧ s < startL S r + at0 S r := by
  unfold numsL
  simp only [List.mem_map, List.mem_range]
  constructor
  · rintro ⟨k, hk, rfl⟩; omega
  · rintro ⟨h1, h2⟩; exact ⟨s - startL S r, by omega, by omega⟩
theorem start_succ {S : List Nat} {r : Nat} : startL S (r + 1) = startL S r + at0 S r := by
  unfold startL
  rw [ownersL_succ]
  simp
theorem start_mono {S : List Nat} {r q : Nat} (h : r ≤ q) : startL S r ≤ startL S q := by
  induction h with
  | refl => exact Nat.le_refl _
  | step _ ih => rw [start_succ]; omega
theorem own_at {S : List Nat} {m r s : Nat} (hr : r < m) (h : s ∈ numsL S r) : (ownersL S m)[s]? = some r := by
  obtain ⟨h1, h2⟩ := mem_nums.mp h
  induction m with
  | zero => omega
  | succ m ih =>
    rw [ownersL_succ]
    by_cases e : r = m
    · subst e
      rw [List.getElem?_append_right h1]
      have : s - (ownersL S r).length < at0 S r := by unfold startL at *; omega
      rw [List.getElem?_replicate, if_pos this]
    · have hs : s < (ownersL S m).length := by
        have := @start_mono S (r + 1) m (by omega)
        rw [start_succ] at this
        unfold startL at *
        omega
      rw [List.getElem?_append_left hs]
      exact ih (by omega)
theorem own_ex {S : List Nat} {m s : Nat} (h : s < startL S m) : ∃ r, r < m ∧ s ∈ numsL S r := by
  induction m with
  | zero => simp [startL, ownersL] at h
  | succ m ih =>
    rw [start_succ] at h
    by_cases e : s < startL S m
    · obtain ⟨r, h1, h2⟩ := ih e
      exact ⟨r, by omega, h2⟩
    · exact ⟨m, by omega, mem_nums.mpr ⟨by omega, h⟩⟩
theorem own_uni {S : List Nat} {r q s : Nat} (h1 : s ∈ numsL S r) (h2 : s ∈ numsL S q) : r = q := by
  have a := own_at (m := max r q + 1) (by omega) h1
  have b := own_at (m := max r q + 1) (by omega) h2
  rw [a] at b
  exact Option.some.inj b
theorem nums_nd {S : List Nat} {r : Nat} : (numsL S r).Nodup := by
  unfold numsL
  rw [List.nodup_iff_pairwise_ne, List.pairwise_map]
  refine List.Pairwise.imp (R := (· ≠ ·)) ?_ List.nodup_range
  intro a b h
  omega
end K90
set_option maxRecDepth 100000
set_option maxHeartbeats 2000000
/-! M13: seats in a left's wide ranking. -/
namespace K90
open PySem PySem.Spec PyProof.Rows L2 RZ DL M90
theorem flat_lt {S : List Nat} {r q s t : Nat} (hs : s ∈ numsL S r) (ht : t ∈ numsL S q) : ∀ {ρ : List Nat}, r ∈ ρ → ixo ρ r < ixo ρ q → ixo (ρ.flatMap (numsL S)) s < ixo (ρ.flatMap (numsL S)) t
  | [], hr, _ => by simp at hr
  | a :: ρ, hr, h => by
    rw [ixo_cons, ixo_cons] at h
    have hq : a ≠ q := fun e => by rw [if_pos e] at h; omega
    rw [if_neg hq] at h
    have ht2 : t ∉ numsL S a := fun h2 => hq (own_uni h2 ht)
    rw [List.flatMap_cons]
    unfold ixo
    rw [List.idxOf_append, List.idxOf_append, if_neg ht2]
    by_cases e : a = r
    · subst e
      rw [if_pos hs]
      have := List.idxOf_lt_length_iff.mpr hs
      omega
    · rw [if_neg e] at h
      have hs2 : s ∉ numsL S a := fun h2 => e (own_uni h2 hs)
      rw [if_neg hs2]
      have hr2 : r ∈ ρ := by
        rcases List.mem_cons.mp hr with h3 | h3
        · exact (e h3.symm).elim
        · exact h3
      have := flat_lt hs ht hr2 (by omega)
      unfold ixo at this
      omega
theorem flat_mem {S : List Nat} {s : Nat} {ρ : List Nat} : s ∈ ρ.flatMap (numsL S) ↔ ∃ r ∈ ρ, s ∈ numsL S r := List.mem_flatMap
theorem flat_nd {S : List Nat} : ∀ {ρ : List Nat}, ρ.Nodup → (ρ.flatMap (numsL S)).Nodup
  | [], _ => by simp
  | a :: ρ, h => by
    rw [List.nodup_cons] at h
    rw [List.flatMap_cons, List.nodup_append]
    refine ⟨nums_nd, flat_nd h.2, fun x hx y hy e => ?_⟩
    subst e
    obtain ⟨r, hr, hx2⟩ := flat_mem.mp hy
    have := own_uni hx hx2
    subst this
    exact h.1 hr
theorem row_splA {A : List (List Nat)} {S : List Nat} {l : Nat} : row (splA A S) l = (row A l).flatMap (numsL S) := by
  unfold row splA
  rw [List.getD_eq_getElem?_getD, List.getD_eq_getElem?_getD, List.getElem?_map]
  cases A[l]? <;> simp
theorem row_splB {B : List (List Nat)} {S : List Nat} {r s : Nat} (hr : r < B.length) (h : s ∈ numsL S r) : row (splB B S) s = row B r := by
  unfold splB
  show ((ownersL S B.length).map (row B)).getD s [] = row B r
  rw [List.getD_eq_getElem?_getD, List.getElem?_map, own_at hr h]
  rfl
theorem own_phi {S : List Nat} {m r s : Nat} (hr : r < m) (h : s ∈ numsL S r) : at0 (ownersL S m) s = r := by
  unfold at0
  rw [List.getD_eq_getElem?_getD, own_at hr h]
  rfl
end K90
set_option maxRecDepth 100000
set_option maxHeartbeats 2000000
/-! M14: a stable pairing of the seats is a stable outcome. -/
namespace K90
open PySem PySem.Spec PyProof.Rows L2 RZ DL M90
def Wide (V : PL) : Prop := ∀ r, r < V.rights.length → ∀ g, g < 4 → 20 ≤ at0 (row V.limits r) g
def spV (V : PL) : PL := sPL (splA V.lefts V.seats) (splB V.rights V.seats)
def phi (V : PL) : Nat → Nat := at0 (ownersL V.seats V.rights.length)
theorem Ch_many {V : PL} (ok : V.Ok) (w : Wide V) {r l : Nat} {A : Nat → Bool} (hr : r < V.rights.length) : l ∈ ChL V r A ↔ l ∈ row V.rights r ∧ A l = true ∧ (((row V.rights r).take (ixo (row V.rights r) l)).filter A).length < at0 V.seats r := by
  unfold ChL
  refine grd_many fun x hx => ?_
  have h1 := gp4 ok hr x hx
  have h2 := (ok.sd.2.1.2.2 _ (row_mem hr)).len
  have := w r hr _ h1
  omega
section
variable {V : PL} {e : Nat → Option Nat}
/-- a seat in a left's wide row -/
theorem seat_row (ok : V.Ok) {l s : Nat} (h : s ∈ row (splA V.lefts V.seats) l) : phi V s ∈ row V.lefts l ∧ phi V s < V.rights.length ∧ s ∈ numsL V.seats (phi V s) := by
  rw [row_splA] at h
  obtain ⟨r, h1, h2⟩ := flat_mem.mp h
  have hr := (row_lt ok h1).2
  have : phi V s = r := own_phi hr h2
  rw [this]
  exact ⟨h1, hr, h2⟩
theorem row_seat (ok : V.Ok) {l r s : Nat} (h : r ∈ row V.lefts l) (hs : s ∈ numsL V.seats r) : s ∈ row (splA V.lefts V.seats) l ∧ phi V s = r ∧ row (splB V.rights V.seats) s = row V.rights r := by
  have hr := (row_lt ok h).2
  exact ⟨by rw [row_splA]; exact flat_mem.mpr ⟨r, h, hs⟩, own_phi hr hs, row_splB hr hs⟩
theorem map_inj_nd {L : List Nat} {f : Nat → Nat} (h : L.Nodup) (hi : ∀ x ∈ L, ∀ y ∈ L, f x = f y → x = y) : (L.map f).Nodup := by
  induction L with
  | nil => simp
  | cons a L ih =>
    rw [List.nodup_cons] at h
    rw [List.map_cons, List.nodup_cons]
    refine ⟨fun hm => ?_, ih h.2 fun x hx y hy => hi x (by simp [hx]) y (by simp [hy])⟩
    obtain ⟨b, hb, q⟩ := List.mem_map.mp hm
    have := hi b (by simp [hb]) a (by simp) q
    subst this
    exact h.1 hb
theorem seats_down (ok : V.Ok) (w : Wide V) (hs : SidesOk (splA V.lefts V.seats) (splB V.rights V.seats)) (st : StabP (spV V) e) : StabP V fun l => (e l).map (phi V) := by
  obtain ⟨s1, s2⟩ := stab_one hs st
  have ex : ∀ l r, (e l).map (phi V) = some r → ∃ s, e l = some s ∧ phi V s = r ∧ s ∈ numsL V.seats r ∧ r ∈ row V.lefts l ∧ l ∈ row V.rights r := fun l r h => by
    cases q : e l with
    | none => rw [q] at h; cases h
    | some s =>
      rw [q] at h
      have hp : phi V s = r := by simpa using h
      obtain ⟨h1, h2, h3, _⟩ := s1 l s q
      obtain ⟨g1, g2, g3⟩ := seat_row ok h2
      rw [hp] at g1 g2 g3
      rw [(row_seat ok g1 g3).2.2] at h3
      exact ⟨s, rfl, hp, g3, g1, h3⟩
  refine ⟨fun l r h => ?_, fun l r hl hr hab hc => ?_⟩
  · obtain ⟨s, q1, q2, q3, q4, q5⟩ := ex l r h
    obtain ⟨hl, hr⟩ := row_lt ok q4
    refine ⟨hl, q4, (Ch_many ok w hr).mpr ⟨q5, by simpa using h, ?_⟩⟩
    have hnd := (ok.sd.2.1.2.2 _ (row_mem hr)).1
    have key : ((((row V.rights r).take (ixo (row V.rights r) l)).filter (fun y => decide ((e y).map (phi V) = some r)) ++ [l]).map fun y => (e y).getD 0).length ≤ (numsL V.seats r).length := by
      refine List.Nodup.length_le_of_subset (map_inj_nd ?_ ?_) ?_
      · rw [List.nodup_append]
        refine ⟨List.Pairwise.filter _ (hnd.sublist (List.take_sublist _ _)), by simp, fun x hx y hy e => ?_⟩
        have hy : y = l := by simpa using hy
        subst hy
        subst e
        have := ((take_ixo hnd).mp (List.mem_filter.mp hx).1).2
        omega
      · have all : ∀ x ∈ ((row V.rights r).take (ixo (row V.rights r) l)).filter (fun y => decide ((e y).map (phi V) = some r)) ++ [l], (e x).map (phi V) = some r := fun x hx => by
          rcases List.mem_append.mp hx with h1 | h1
          · simpa using (List.mem_filter.mp h1).2
          · rw [List.mem_singleton.mp h1]; exact h
        intro x hx y hy hxy
        obtain ⟨a, a1, _⟩ := ex x r (all x hx)
        obtain ⟨b, b1, _⟩ := ex y r (all y hy)
        rw [a1, b1] at hxy
        have : a = b := by simpa using hxy
        subst this
        exact ((s1 y a b1).2.2.2 x a1)
      · intro z hz
        obtain ⟨x, hx, rfl⟩ := List.mem_map.mp hz
        have hx2 : (e x).map (phi V) = some r := by
          rcases List.mem_append.mp hx with h1 | h1
          · simpa using (List.mem_filter.mp h1).2
          · rw [List.mem_singleton.mp h1]; exact h
        obtain ⟨a, a1, _, a3, _⟩ := ex x r hx2
        rw [a1]
        exact a3
    simp [numsL] at key
    simp
    omega
  · obtain ⟨_, hrm⟩ := row_lt ok hr
    obtain ⟨h1, h2, h3⟩ := (Ch_many ok w hrm).mp hc
    have hnd := (ok.sd.2.1.2.2 _ (row_mem hrm)).1
    have key : (numsL V.seats r).length ≤ (((row V.rights r).take (ixo (row V.rights r) l)).filter fun y => decide ((e y).map (phi V) = some r ∨ y = l)).length := by
      have hy : ∀ s ∈ numsL V.seats r, ∃ y, e y = some s ∧ ixo (row V.rights r) y < ixo (row V.rights r) l := fun s hs => by
        obtain ⟨g1, g2, g3⟩ := row_seat ok hr hs
        have := s2 l s (by rw [g3]; exact h1) g1 (by
          cases q : e l with
          | none => rfl
          | some t =>
            rw [q] at hab
            have hab : ixo (row V.lefts l) r < ixo (row V.lefts l) (phi V t) := by simpa [abB] using hab
            obtain ⟨_, t2, _⟩ := s1 l t q
            obtain ⟨_, _, t3⟩ := seat_row ok t2
            show decide (_ < _) = true
            rw [decide_eq_true_eq, row_splA]
            exact flat_lt hs t3 hr hab)
        rwa [g3] at this
      have hinv : ∀ y s, e y = some s ↔ inv V.lefts.length e s = some y := fun y s => inv_iff (n := V.lefts.length) (ν := e) (fun l r h => by have := (s1 l r h).1; simpa [splA] using this) (fun l y r h1 h2 => (s1 l r h1).2.2.2 y h2) y s
      refine Nat.le_trans ?_ (List.Nodup.length_le_of_subset (l₁ := (numsL V.seats r).map fun s => (inv V.lefts.length e s).getD 0) (map_inj_nd nums_nd ?_) ?_)
      · simp
      · intro a ha b hb hab
        obtain ⟨y, y1, _⟩ := hy a ha
        obtain ⟨z, z1, _⟩ := hy b hb
        rw [(hinv y a).mp y1, (hinv z b).mp z1] at hab
        have : y = z := by simpa using hab
        subst this
        rw [y1] at z1
        exact Option.some.inj z1
      · intro z hz
        obtain ⟨s, hs, rfl⟩ := List.mem_map.mp hz
        obtain ⟨y, y1, y2⟩ := hy s hs
        rw [(hinv y s).mp y1]
        obtain ⟨g1, g2, g3⟩ := row_seat ok hr hs
        have hyr := (s1 y s y1).2.2.1
        rw [g3] at hyr
        refine List.mem_filter.mpr ⟨(take_ixo hnd).mpr ⟨hyr, y2⟩, ?_⟩
        simp [y1, g2]
    simp [numsL] at key
    simp at h3
    omega
end
end K90
set_option maxRecDepth 100000
set_option maxHeartbeats 2000000
/-! M15: places in a filtered list. -/
namespace K90
open PySem PySem.Spec PyProof.Rows L2 RZ DL M90
/-- how many of P lie ahead of l -/
def ahead (ρ : List Nat) (P : Nat → Bool) (l : Nat) : Nat := ((ρ.take (ixo ρ l)).filter P).length
theorem ahead_cons {a l : Nat} {ρ : List Nat} {P : Nat → Bool} : ahead (a :: ρ) P l = if a = l then 0 else (if P a = true then 1 else 0) + ahead ρ P l := by
  unfold ahead
  rw [ixo_cons]
  by_cases e : a = l
  · simp [e]
  · rw [if_neg e, if_neg e, List.take_succ_cons, List.filter_cons]
    by_cases h : P a = true
    · simp [h]; omega
    · simp [h]
theorem ahead_lt {P : Nat → Bool} {x y : Nat} : ∀ {ρ : List Nat}, x ∈ ρ → P x = true → ixo ρ x < ixo ρ y → ahead ρ P x < ahead ρ P y
  | [], h, _, _ => by simp at h
  | a :: ρ, h, hp, hlt => by
    rw [ixo_cons, ixo_cons] at hlt
    rw [ahead_cons, ahead_cons]
    have hy : a ≠ y := fun e => by rw [if_pos e] at hlt; omega
    rw [if_neg hy] at hlt ⊢
    by_cases e : a = x
    · subst e
      simp [hp]
      omega
    · rw [if_neg e] at hlt ⊢
      have hx : x ∈ ρ := by
        rcases List.mem_cons.mp h with h3 | h3
        · exact (e h3.symm).elim
        · exact h3
      have := ahead_lt hx hp (show ixo ρ x < ixo ρ y by omega)
      omega
/-- the one with j of P ahead -/
theorem ahead_ex {P : Nat → Bool} {l j : Nat} : ∀ {ρ : List Nat}, ρ.Nodup → j < ahead ρ P l → ∃ y, y ∈ ρ ∧ P y = true ∧ ixo ρ y < ixo ρ l ∧ ahead ρ P y = j
  | [], _, h => by simp [ahead] at h
  | a :: ρ, hn, h => by
    rw [List.nodup_cons] at hn
    rw [ahead_cons] at h
    by_cases e : a = l
    · rw [if_pos e] at h; omega
    rw [if_neg e] at h
    have tail : ∀ i, i < ahead ρ P l → ((if P a = true then 1 else 0) + i = j) → ∃ y, y ∈ a :: ρ ∧ P y = true ∧ ixo (a :: ρ) y < ixo (a :: ρ) l ∧ ahead (a :: ρ) P y = j := fun i hi hj => by
      obtain ⟨y, h1, h2, h3, h4⟩ := ahead_ex hn.2 hi
      have ne : a ≠ y := fun q => hn.1 (q ▸ h1)
      refine ⟨y, by simp [h1], h2, ?_, ?_⟩
      · rw [ixo_cons, ixo_cons, if_neg ne, if_neg e]; omega
      · rw [ahead_cons, if_neg ne, h4]; exact hj
    by_cases hp : P a = true
    · rw [if_pos hp] at h tail
      cases j with
      | zero => exact ⟨a, by simp, hp, by rw [ixo_cons, ixo_cons, if_pos rfl, if_neg e]; omega, by rw [ahead_cons, if_pos rfl]⟩
      | succ j => exact tail j (by omega) (by omega)
    · rw [if_neg hp] at h tail
      exact tail j (by omega) (by omega)
end K90
set_option maxRecDepth 100000
set_option maxHeartbeats 2000000
/-! M16: an outcome's members take the seats in order. -/
namespace K90
open PySem PySem.Spec PyProof.Rows L2 RZ DL M90
def memP (ν : Nat → Option Nat) (r : Nat) : Nat → Bool := fun y => decide (ν y = some r)
def fillE (V : PL) (ν : Nat → Option Nat) (l : Nat) : Option Nat := (ν l).map fun r => startL V.seats r + ahead (row V.rights r) (memP ν r) l
section
variable {V : PL} {ν : Nat → Option Nat}
/-- what an outcome keeps -/
structure Fill (V : PL) (ν : Nat → Option Nat) : Prop where
  ir : ∀ l r, ν l = some r → l < V.lefts.length ∧ r ∈ row V.lefts l ∧ l ∈ row V.rights r ∧ ahead (row V.rights r) (memP ν r) l < at0 V.seats r
theorem fill_seat (ok : V.Ok) (f : Fill V ν) {l r : Nat} (h : ν l = some r) : ∃ s, fillE V ν l = some s ∧ s ∈ numsL V.seats r ∧ phi V s = r ∧ s = startL V.seats r + ahead (row V.rights r) (memP ν r) l := by
  obtain ⟨h1, h2, h3, h4⟩ := f.ir l r h
  have hm : startL V.seats r + ahead (row V.rights r) (memP ν r) l ∈ numsL V.seats r := mem_nums.mpr ⟨by omega, by omega⟩
  exact ⟨_, by unfold fillE; rw [h]; rfl, hm, own_phi (row_lt ok h2).2 hm, rfl⟩
theorem fill_some (ok : V.Ok) (f : Fill V ν) {l s : Nat} (h : fillE V ν l = some s) : ν l = some (phi V s) ∧ s ∈ numsL V.seats (phi V s) ∧ s = startL V.seats (phi V s) + ahead (row V.rights (phi V s)) (memP ν (phi V s)) l := by
  cases q : ν l with
  | none => unfold fillE at h; rw [q] at h; cases h
  | some r =>
    obtain ⟨t, t1, t2, t3, t4⟩ := fill_seat ok f q
    rw [h] at t1
    cases t1
    rw [t3]
    exact ⟨rfl, t2, t4⟩
theorem fill_phi (ok : V.Ok) (f : Fill V ν) (l : Nat) : (fillE V ν l).map (phi V) = ν l := by
  cases q : ν l with
  | none => unfold fillE; rw [q]; rfl
  | some r =>
    obtain ⟨t, t1, t2, t3, t4⟩ := fill_seat ok f q
    rw [t1]
    simp [t3]
theorem fill_inj (ok : V.Ok) (f : Fill V ν) {l y s : Nat} (h1 : fillE V ν l = some s) (h2 : fillE V ν y = some s) : y = l := by
  obtain ⟨a1, a2, a3⟩ := fill_some ok f h1
  obtain ⟨b1, b2, b3⟩ := fill_some ok f h2
  obtain ⟨_, _, a4, _⟩ := f.ir l _ a1
  obtain ⟨_, _, b4, _⟩ := f.ir y _ b1
  rcases Nat.lt_trichotomy (ixo (row V.rights (phi V s)) l) (ixo (row V.rights (phi V s)) y) with q | q | q
  · have := ahead_lt (P := memP ν (phi V s)) a4 (by simp [memP, a1]) q
    omega
  · exact (ixo_inj a4 q).symm
  · have := ahead_lt (P := memP ν (phi V s)) b4 (by simp [memP, b1]) q
    omega
end
end K90
set_option maxRecDepth 100000
set_option maxHeartbeats 2000000
/-! M17: a stable outcome is a stable pairing of the seats. -/
namespace K90
open PySem PySem.Spec PyProof.Rows L2 RZ DL M90
theorem nums_ixo {S : List Nat} {r s : Nat} (h : s ∈ numsL S r) : ixo (numsL S r) s = s - startL S r := by
  obtain ⟨h1, h2⟩ := mem_nums.mp h
  refine idx_at nums_nd ?_
  unfold numsL
  rw [List.getElem?_map, List.getElem?_range (by omega)]
  show some (startL S r + (s - startL S r)) = some s
  congr 1
  omega
theorem flat_lt2 {S : List Nat} {r s t : Nat} (hs : s ∈ numsL S r) (ht : t ∈ numsL S r) (h : s < t) : ∀ {ρ : List Nat}, r ∈ ρ → ixo (ρ.flatMap (numsL S)) s < ixo (ρ.flatMap (numsL S)) t
  | [], hr => by simp at hr
  | a :: ρ, hr => by
    rw [List.flatMap_cons]
    unfold ixo
    rw [List.idxOf_append, List.idxOf_append]
    by_cases e : a = r
    · subst e
      rw [if_pos hs, if_pos ht]
      have h1 := nums_ixo hs
      have h2 := nums_ixo ht
      obtain ⟨g1, _⟩ := mem_nums.mp hs
      unfold ixo at h1 h2
      omega
    · rw [if_neg fun q => e (own_uni q hs), if_neg fun q => e (own_uni q ht)]
      have hr2 : r ∈ ρ := by
        rcases List.mem_cons.mp hr with h3 | h3
        · exact (e h3.symm).elim
        · exact h3
      have := flat_lt2 hs ht h hr2
      unfold ixo at this
      omega
theorem fill_of {V : PL} (ok : V.Ok) (w : Wide V) {ν : Nat → Option Nat} (st : StabP V ν) : Fill V ν where
  ir := fun l r h => by
    obtain ⟨h1, h2, h3⟩ := st.ir l r h
    obtain ⟨g1, _, g3⟩ := (Ch_many ok w (row_lt ok h2).2).mp h3
    exact ⟨h1, h2, g1, g3⟩
theorem seats_up {V : PL} (ok : V.Ok) (w : Wide V) (hs : SidesOk (splA V.lefts V.seats) (splB V.rights V.seats)) {ν : Nat → Option Nat} (st : StabP V ν) : StabP (spV V) (fillE V ν) := by
  have f := fill_of ok w st
  refine ⟨fun l s h => ?_, fun l s hl hs2 hab hc => ?_⟩
  · obtain ⟨a1, a2, a3⟩ := fill_some ok f h
    obtain ⟨b1, b2, b3, b4⟩ := f.ir l _ a1
    obtain ⟨c1, c2, c3⟩ := row_seat ok b2 a2
    refine ⟨by simpa [spV, sPL, splA] using b1, c1, (ChL_one hs).mpr ⟨by rw [c3]; exact b3, by simpa using h, fun y hy he => ?_⟩⟩
    have : y = l := fill_inj ok f h (by simpa using he)
    rw [this]
    exact Nat.le_refl _
  · have hs3 : s ∈ row (splA V.lefts V.seats) l := hs2
    obtain ⟨c1, c2, c3⟩ := seat_row ok hs3
    obtain ⟨c4, c5, c6⟩ := row_seat ok c1 c3
    obtain ⟨d1, d2, d3⟩ := (ChL_one hs).mp hc
    rw [c6] at d1 d3
    have hnd := (ok.sd.2.1.2.2 _ (row_mem c2)).1
    obtain ⟨m1, m2⟩ := mem_nums.mp c3
    -- a member ahead of l with this seat is against what was said
    have no : ∀ j, s = startL V.seats (phi V s) + j → j < ahead (row V.rights (phi V s)) (memP ν (phi V s)) l → False := fun j hj hlt => by
      obtain ⟨y, y1, y2, y3, y4⟩ := ahead_ex hnd hlt
      have hy : ν y = some (phi V s) := by simpa [memP] using y2
      obtain ⟨t, t1, t2, t3, t4⟩ := fill_seat ok f hy
      have : fillE V ν y = some s := by rw [t1]; congr 1; omega
      have := d3 y y1 (by simp [this])
      omega
    have hlL : l < V.lefts.length := (row_lt ok c1).1
    by_cases q : ν l = some (phi V s)
    · obtain ⟨t, t1, t2, t3, t4⟩ := fill_seat ok f q
      rw [t1] at hab
      have hab : ixo (row (splA V.lefts V.seats) l) s < ixo (row (splA V.lefts V.seats) l) t := of_decide_eq_true hab
      have hst : s < t := by
        rcases Nat.lt_trichotomy s t with u | u | u
        · exact u
        · rw [u] at hab; omega
        · rw [row_splA] at hab
          have := flat_lt2 t2 c3 u c1
          omega
      exact no (s - startL V.seats (phi V s)) (by omega) (by omega)
    · have hst : abB (row V.lefts l) (phi V s) (ν l) = true := by
        cases e : ν l with
        | none => rfl
        | some r =>
          obtain ⟨t, t1, t2, t3, t4⟩ := fill_seat ok f e
          rw [t1] at hab
          have hab : ixo (row (splA V.lefts V.seats) l) s < ixo (row (splA V.lefts V.seats) l) t := of_decide_eq_true hab
          show decide (_ < _) = true
          rw [decide_eq_true_eq]
          rcases Nat.lt_trichotomy (ixo (row V.lefts l) (phi V s)) (ixo (row V.lefts l) r) with u | u | u
          · exact u
          · have := ixo_inj c1 u
            rw [e, this] at q
            exact (q rfl).elim
          · rw [row_splA] at hab
            have := flat_lt t2 c3 (f.ir l r e).2.1 u
            omega
      have h0 := st.nb l (phi V s) hlL c1 hst
      rw [Ch_many ok w c2] at h0
      refine no (s - startL V.seats (phi V s)) (by omega) ?_
      have h1 : ¬ ahead (row V.rights (phi V s)) (fun y => decide (ν y = some (phi V s) ∨ y = l)) l < at0 V.seats (phi V s) := fun h => h0 ⟨d1, by simp, h⟩
      have h2 : ahead (row V.rights (phi V s)) (fun y => decide (ν y = some (phi V s) ∨ y = l)) l = ahead (row V.rights (phi V s)) (memP ν (phi V s)) l := by
        unfold ahead
        congr 1
        apply List.filter_congr
        intro y hy
        have := ((take_ixo hnd).mp hy).2
        have ne : y ≠ l := fun z => by rw [z] at this; omega
        simp [memP, ne]
      omega
end K90
set_option maxRecDepth 100000
set_option maxHeartbeats 2000000
/-! M18: the seats' market and the places' market. -/
namespace K90
open PySem PySem.Spec PyProof.Rows L2 RZ DL M90
theorem seats_tr {V : PL} (ok : V.Ok) (w : Wide V) (hs : SidesOk (splA V.lefts V.seats) (splB V.rights V.seats)) : Tr V (spV V) (phi V) where
  len := by simp [spV, sPL, splA]
  mem := fun l s h => (seat_row ok h).1
  ord := fun l s t h1 h2 hle => by
    obtain ⟨a1, _, a3⟩ := seat_row ok (V := V) h1
    obtain ⟨b1, _, b3⟩ := seat_row ok (V := V) h2
    rcases Nat.lt_or_ge (ixo (row V.lefts l) (phi V t)) (ixo (row V.lefts l) (phi V s)) with q | q
    · have := flat_lt b3 a3 b1 q
      rw [← row_splA] at this
      have hle : ixo (row (splA V.lefts V.seats) l) s ≤ ixo (row (splA V.lefts V.seats) l) t := hle
      omega
    · exact q
  down := fun e st => seats_down ok w hs st
  up := fun ν st => ⟨fillE V ν, seats_up ok w hs st, fill_phi ok (fill_of ok w st)⟩
theorem start_total {S : List Nat} {m r s : Nat} (hr : r < m) (h : s ∈ numsL S r) : s < startL S m := by
  have := (List.getElem?_eq_some_iff.mp (own_at hr h)).1
  exact this
/-- the split is a market of its own -/
theorem spl_ok {V : PL} (ok : V.Ok) (ht : startL V.seats V.rights.length ≤ 20) (h1 : 1 ≤ startL V.seats V.rights.length) : SidesOk (splA V.lefts V.seats) (splB V.rights V.seats) := by
  obtain ⟨⟨a1, a2, a3⟩, ⟨b1, b2, b3⟩, c⟩ := ok.sd
  refine ⟨⟨by simpa [splA] using a1, by simpa [splA] using a2, fun r hr => ?_⟩, ⟨by simpa [splB, startL] using h1, by simpa [splB, startL] using ht, fun r hr => ?_⟩, fun r hr x hx => ?_⟩
  · obtain ⟨k, hk, rfl⟩ := List.mem_map.mp hr
    refine ⟨flat_nd (a3 k hk).1, fun x hx => ?_, Nat.le_refl _⟩
    obtain ⟨q, hq, hx2⟩ := flat_mem.mp hx
    have := start_total (c k hk q hq) hx2
    omega
  · obtain ⟨q, hq, rfl⟩ := List.mem_map.mp hr
    have hq2 : q < V.rights.length := by
      obtain ⟨p, p1, p2⟩ := List.mem_flatMap.mp hq
      rw [(List.mem_replicate.mp p2).2]
      exact List.mem_range.mp p1
    have := b3 _ (row_mem hq2)
    refine ⟨this.1, fun x hx => ?_, a2 |> fun h => by simpa [splA] using h⟩
    simpa [splA] using this.2.1 x hx
  · obtain ⟨k, hk, rfl⟩ := List.mem_map.mp hr
    obtain ⟨q, hq, hx2⟩ := flat_mem.mp hx
    have := start_total (c k hk q hq) hx2
    simpa [splB, startL] using this
end K90
set_option maxRecDepth 100000
set_option maxHeartbeats 2000000
/-! M19: blocks of a filled pairing and blocks of an outcome. -/
namespace K90
open PySem PySem.Spec PyProof.Rows L2 RZ DL M90
def fillL (V : PL) (o : List (Option Nat)) : List (Option Nat) := (List.range V.lefts.length).map (fillE V (oat o))
theorem fillL_len {V : PL} {o : List (Option Nat)} : (fillL V o).length = V.lefts.length := by simp [fillL]
theorem fillL_at {V : PL} (ok : V.Ok) {o : List (Option Nat)} (f : Fill V (oat o)) (l : Nat) : oat (fillL V o) l = fillE V (oat o) l := by
  by_cases h : l < V.lefts.length
  · exact oat_range h
  · rw [oat_out (by rw [fillL_len]; omega)]
    cases e : fillE V (oat o) l with
    | none => rfl
    | some s => exact (h (f.ir l _ (fill_some ok f e).1).1).elim
theorem fill_out {V : PL} (ok : V.Ok) (w : Wide V) {o : List (Option Nat)} (io : IsOut V o) : Fill V (oat o) where
  ir := fun l r h => by
    have hl : l < V.lefts.length := by
      rcases Nat.lt_or_ge l V.lefts.length with q | q
      · exact q
      · rw [oat_out (by rw [io.len]; exact q)] at h; cases h
    obtain ⟨h1, h2⟩ := io.fit l r h hl
    obtain ⟨h3, h4⟩ := fitB_iff.mp h2
    have h5 := io.tak r h1
    have h6 : l ∈ memb o r := mem_memb.mpr h
    rw [← h5] at h6
    have h7 := (mem_takenL ok h1).mp h6
    obtain ⟨g1, g2, g3⟩ := (Ch_many ok w h1).mp h7
    refine ⟨hl, h3, g1, ?_⟩
    have : (fun y => decide (y ∈ memb o r)) = memP (oat o) r := by
      funext y
      exact decide_eq_decide.mpr mem_memb
    rw [this] at g3
    exact g3
theorem fill_pairs {V : PL} (ok : V.Ok) {o : List (Option Nat)} (f : Fill V (oat o)) (ht : 0 < 1) : Pairs (splA V.lefts V.seats) (splB V.rights V.seats) (fillL V o) where
  len := by rw [fillL_len]; simp [splA]
  fit := fun l s h => by
    rw [fillL_at ok f] at h
    obtain ⟨a1, a2, a3⟩ := fill_some ok f h
    obtain ⟨b1, b2, b3, b4⟩ := f.ir l _ a1
    obtain ⟨c1, c2, c3⟩ := row_seat ok b2 a2
    have hr := (row_lt ok b2).2
    exact ⟨by simpa [splA] using b1, by have := start_total hr a2; simpa [splB, startL] using this, c1, by rw [c3]; exact b3⟩
end K90
set_option maxRecDepth 100000
set_option maxHeartbeats 2000000
/-! M20: the iff of blocks. -/
namespace K90
open PySem PySem.Spec PyProof.Rows L2 RZ DL M90
theorem blk_ch {V : PL} (ok : V.Ok) (w : Wide V) {o : List (Option Nat)} {l r : Nat} (hr : r < V.rights.length) : l ∈ ChL V r (fun x => decide (x ∈ memb o r ++ [l])) ↔ l ∈ row V.rights r ∧ ahead (row V.rights r) (memP (oat o) r) l < at0 V.seats r := by
  have hnd := (ok.sd.2.1.2.2 _ (row_mem hr)).1
  have e : ((row V.rights r).take (ixo (row V.rights r) l)).filter (fun x => decide (x ∈ memb o r ++ [l])) = ((row V.rights r).take (ixo (row V.rights r) l)).filter (memP (oat o) r) := by
    apply List.filter_congr
    intro y hy
    have := ((take_ixo hnd).mp hy).2
    have ne : y ≠ l := fun z => by rw [z] at this; omega
    apply decide_eq_decide.mpr
    rw [List.mem_append, mem_memb, List.mem_singleton]
    exact ⟨fun h => h.resolve_right ne, .inl⟩
  rw [Ch_many ok w hr, e]
  simp [ahead]
theorem blk_fill {V : PL} (ok : V.Ok) (w : Wide V) {o : List (Option Nat)} (io : IsOut V o) : (∃ l s, PBlk (splA V.lefts V.seats) (splB V.rights V.seats) (fillL V o) l s) ↔ ∃ l r, Blk V o l r := by
  have f := fill_out ok w io
  constructor
  · rintro ⟨l, s, h1, h2, h3, h4, h5⟩
    obtain ⟨c1, c2, c3⟩ := seat_row ok h2
    obtain ⟨_, _, c6⟩ := row_seat ok c1 c3
    rw [c6] at h3 h5
    rw [fillL_at ok f] at h4
    have hnd := (ok.sd.2.1.2.2 _ (row_mem c2)).1
    obtain ⟨m1, m2⟩ := mem_nums.mp c3
    have no : ∀ j, s = startL V.seats (phi V s) + j → j < ahead (row V.rights (phi V s)) (memP (oat o) (phi V s)) l → False := fun j hj hlt => by
      obtain ⟨y, y1, y2, y3, y4⟩ := ahead_ex hnd hlt
      have hy : oat o y = some (phi V s) := by simpa [memP] using y2
      obtain ⟨t, t1, t2, t3, t4⟩ := fill_seat ok f hy
      have hys : fillE V (oat o) y = some s := by rw [t1]; congr 1; omega
      have hm : y ∈ memb (fillL V o) s := mem_memb.mpr (by rw [fillL_at ok f]; exact hys)
      cases e : (memb (fillL V o) s).head? with
      | none => rw [List.head?_eq_none_iff] at e; rw [e] at hm; cases hm
      | some z =>
        have hz := memb_head e
        rw [fillL_at ok f] at hz
        have : z = y := fill_inj ok f hys hz
        subst this
        rw [e] at h5
        have : ixo (row V.rights (phi V s)) l < ixo (row V.rights (phi V s)) z := of_decide_eq_true h5
        omega
    have hlL : l < V.lefts.length := (row_lt ok c1).1
    have hne : oat o l ≠ some (phi V s) := fun q => by
      obtain ⟨t, t1, t2, t3, t4⟩ := fill_seat ok f q
      rw [t1] at h4
      have hab : ixo (row (splA V.lefts V.seats) l) s < ixo (row (splA V.lefts V.seats) l) t := of_decide_eq_true h4
      have hst : s < t := by
        rcases Nat.lt_trichotomy s t with u | u | u
        · exact u
        · rw [u] at hab; omega
        · rw [row_splA] at hab
          have := flat_lt2 t2 c3 u c1
          omega
      exact no (s - startL V.seats (phi V s)) (by omega) (by omega)
    have hst : abB (row V.lefts l) (phi V s) (oat o l) = true := by
      cases e : oat o l with
      | none => rfl
      | some r =>
        obtain ⟨t, t1, t2, t3, t4⟩ := fill_seat ok f e
        rw [t1] at h4
        have hab : ixo (row (splA V.lefts V.seats) l) s < ixo (row (splA V.lefts V.seats) l) t := of_decide_eq_true h4
        show decide (_ < _) = true
        rw [decide_eq_true_eq]
        rcases Nat.lt_trichotomy (ixo (row V.lefts l) (phi V s)) (ixo (row V.lefts l) r) with u | u | u
        · exact u
        · have := ixo_inj c1 u
          rw [e, this] at hne
          exact (hne rfl).elim
        · rw [row_splA] at hab
          have := flat_lt t2 c3 (f.ir l r e).2.1 u
          omega
    refine ⟨l, phi V s, hlL, c1, fitB_iff.mpr ⟨c1, h3⟩, hne, hst, (blk_ch ok w c2).mpr ⟨h3, ?_⟩⟩
    rcases Nat.lt_or_ge (ahead (row V.rights (phi V s)) (memP (oat o) (phi V s)) l) (at0 V.seats (phi V s)) with q | q
    · exact q
    · exact (no (s - startL V.seats (phi V s)) (by omega) (by omega)).elim
  · rintro ⟨l, r, h1, h2, h3, h4, h5, h6⟩
    have hr := (row_lt ok h2).2
    obtain ⟨g1, g2⟩ := (blk_ch ok w hr).mp h6
    have hs : startL V.seats r + ahead (row V.rights r) (memP (oat o) r) l ∈ numsL V.seats r := mem_nums.mpr ⟨by omega, by omega⟩
    obtain ⟨c1, c2, c3⟩ := row_seat ok h2 hs
    refine ⟨l, _, by simpa [splA] using h1, c1, by rw [c3]; exact g1, ?_, ?_⟩
    · rw [fillL_at ok f]
      cases e : fillE V (oat o) l with
      | none => rfl
      | some t =>
        obtain ⟨a1, a2, a3⟩ := fill_some ok f e
        rw [a1] at h5
        have : ixo (row V.lefts l) r < ixo (row V.lefts l) (phi V t) := of_decide_eq_true h5
        show decide (_ < _) = true
        rw [decide_eq_true_eq, row_splA]
        exact flat_lt hs a2 h2 this
    · rw [c3]
      cases e : (memb (fillL V o) (startL V.seats r + ahead (row V.rights r) (memP (oat o) r) l)).head? with
      | none => rfl
      | some y =>
        have hy := memb_head e
        rw [fillL_at ok f] at hy
        obtain ⟨a1, a2, a3⟩ := fill_some ok f hy
        rw [c2] at a1 a2 a3
        have hyr := (f.ir y r a1).2.2.1
        show decide (_ < _) = true
        rw [decide_eq_true_eq]
        rcases Nat.lt_trichotomy (ixo (row V.rights r) l) (ixo (row V.rights r) y) with u | u | u
        · exact u
        · have := ixo_inj g1 u
          rw [← this] at a1
          exact (h4 a1).elim
        · have := ahead_lt (P := memP (oat o) r) hyr (by simp [memP, a1]) u
          omega
end K90
set_option maxRecDepth 100000
set_option maxHeartbeats 2000000
/-! M21: the greedy choice where every group takes one at most. -/
namespace K90
open PySem PySem.Spec PyProof.Rows L2 RZ DL M90
theorem s4_pos {lim : Nat → Nat} {g : Nat} (hg : g < 4) (h : 0 < lim g) : 0 < s4 lim := by
  unfold s4
  match g, hg with
  | 0, _ => omega
  | 1, _ => omega
  | 2, _ => omega
  | 3, _ => omega
theorem grd_grp {gp : Nat → Nat} {S : Nat → Bool} {l : Nat} : ∀ {ρ : List Nat} {s : Nat} {lim : Nat → Nat}, ρ.Nodup → (∀ x ∈ ρ, gp x < 4) → (∀ g, lim g ≤ 1) → s4 lim ≤ s →
    (l ∈ grd gp ρ s lim S ↔ l ∈ ρ ∧ S l = true ∧ lim (gp l) = 1 ∧ ∀ y ∈ ρ, S y = true → gp y = gp l → ixo ρ l ≤ ixo ρ y)
  | [], s, lim, _, _, _, _ => by simp [grd]
  | a :: ρ, s, lim, hn, hg, hl, hs => by
    rw [List.nodup_cons] at hn
    have hga := hg a (by simp)
    have hgr : ∀ x ∈ ρ, gp x < 4 := fun x hx => hg x (by simp [hx])
    by_cases ht : S a = true ∧ lim (gp a) = 1
    · obtain ⟨ht1, ht2⟩ := ht
      have hp : 0 < lim (gp a) := by omega
      have hs0 := s4_pos hga hp
      have hd := s4_dec hga hp
      have e0 : grd gp (a :: ρ) s lim S = a :: grd gp ρ (s - 1) (fun g => if g = gp a then lim g - 1 else lim g) S := by
        rw [grd]
        rw [if_pos (by simp [ht1, hp]; omega)]
      have ih := grd_grp (gp := gp) (S := S) (l := l) (ρ := ρ) (s := s - 1) (lim := fun g => if g = gp a then lim g - 1 else lim g) hn.2 hgr (fun g => by
        show (if g = gp a then lim g - 1 else lim g) ≤ 1
        have := hl g
        split <;> omega) (by omega)
      rw [e0, List.mem_cons, ih]
      constructor
      · rintro (rfl | ⟨h1, h2, h3, h4⟩)
        · exact ⟨by simp, ht1, ht2, fun y _ _ _ => by rw [ixo_cons, if_pos rfl]; omega⟩
        · have ne : a ≠ l := fun e => hn.1 (e ▸ h1)
          have hgl : gp l ≠ gp a := fun e => by
            have : (if gp l = gp a then lim (gp l) - 1 else lim (gp l)) = 1 := h3
            rw [if_pos e, e] at this
            omega
          have h3' : lim (gp l) = 1 := by
            have : (if gp l = gp a then lim (gp l) - 1 else lim (gp l)) = 1 := h3
            rwa [if_neg hgl] at this
          refine ⟨by simp [h1], h2, h3', fun y hy hS hgy => ?_⟩
          have ne2 : a ≠ y := fun e => hgl (by rw [e]; exact hgy.symm)
          have hy2 : y ∈ ρ := by
            rcases List.mem_cons.mp hy with q | q
            · exact (ne2 q.symm).elim
            · exact q
          rw [ixo_cons, ixo_cons, if_neg ne, if_neg ne2]
          have := h4 y hy2 hS hgy
          omega
      · rintro ⟨h1, h2, h3, h4⟩
        by_cases e : l = a
        · exact .inl e
        · right
          have ne : a ≠ l := fun q => e q.symm
          have hl2 : l ∈ ρ := by
            rcases List.mem_cons.mp h1 with q | q
            · exact (e q).elim
            · exact q
          have hgl : gp l ≠ gp a := fun q => by
            have := h4 a (by simp) ht1 q.symm
            rw [ixo_cons, ixo_cons, if_neg ne, if_pos rfl] at this
            omega
          refine ⟨hl2, h2, ?_, fun y hy hS hgy => ?_⟩
          · show (if gp l = gp a then lim (gp l) - 1 else lim (gp l)) = 1
            rw [if_neg hgl]
            exact h3
          · have ne2 : a ≠ y := fun q => hn.1 (q ▸ hy)
            have := h4 y (by simp [hy]) hS hgy
            rw [ixo_cons, ixo_cons, if_neg ne, if_neg ne2] at this
            omega
    · have e0 : grd gp (a :: ρ) s lim S = grd gp ρ s lim S := by
        rw [grd]
        rw [if_neg]
        intro q
        simp only [Bool.and_eq_true, decide_eq_true_eq] at q
        have := hl (gp a)
        exact ht ⟨q.1.1, by omega⟩
      have ih := grd_grp (gp := gp) (S := S) (l := l) (ρ := ρ) (s := s) (lim := lim) hn.2 hgr hl hs
      rw [e0, ih]
      constructor
      · rintro ⟨h1, h2, h3, h4⟩
        have ne : a ≠ l := fun e => hn.1 (e ▸ h1)
        refine ⟨by simp [h1], h2, h3, fun y hy hS hgy => ?_⟩
        have ne2 : a ≠ y := fun e => ht ⟨by rw [e]; exact hS, by rw [e, hgy]; exact h3⟩
        have hy2 : y ∈ ρ := by
          rcases List.mem_cons.mp hy with q | q
          · exact (ne2 q.symm).elim
          · exact q
        rw [ixo_cons, ixo_cons, if_neg ne, if_neg ne2]
        have := h4 y hy2 hS hgy
        omega
      · rintro ⟨h1, h2, h3, h4⟩
        have ne : a ≠ l := fun e => ht ⟨by rw [e]; exact h2, by rw [e]; exact h3⟩
        have hl2 : l ∈ ρ := by
          rcases List.mem_cons.mp h1 with q | q
          · exact (ne q.symm).elim
          · exact q
        refine ⟨hl2, h2, h3, fun y hy hS hgy => ?_⟩
        have ne2 : a ≠ y := fun q => hn.1 (q ▸ hy)
        have := h4 y (by simp [hy]) hS hgy
        rw [ixo_cons, ixo_cons, if_neg ne, if_neg ne2] at this
        omega
end K90
set_option maxRecDepth 100000
set_option maxHeartbeats 2000000
/-! M22: spots: a right's group as a right of its own. -/
namespace K90
open PySem PySem.Spec PyProof.Rows L2 RZ DL M90
/-- the order of a chosen and renamed part -/
theorem ixo_fm {p : Nat → Bool} {f : Nat → Nat} {a b : Nat} : ∀ {ρ : List Nat}, (∀ x ∈ ρ, ∀ y ∈ ρ, p x = true → p y = true → f x = f y → x = y) → a ∈ ρ → b ∈ ρ → p a = true → p b = true → ixo ρ a < ixo ρ b → ixo ((ρ.filter p).map f) (f a) < ixo ((ρ.filter p).map f) (f b)
  | [], _, h, _, _, _, _ => by simp at h
  | c :: ρ, hi, ha, hb, pa, pb, h => by
    rw [ixo_cons, ixo_cons] at h
    have hcb : c ≠ b := fun e => by rw [if_pos e] at h; omega
    rw [if_neg hcb] at h
    have hb2 : b ∈ ρ := by
      rcases List.mem_cons.mp hb with q | q
      · exact (hcb q.symm).elim
      · exact q
    have hi2 : ∀ x ∈ ρ, ∀ y ∈ ρ, p x = true → p y = true → f x = f y → x = y := fun x hx y hy => hi x (by simp [hx]) y (by simp [hy])
    by_cases pc : p c = true
    · rw [List.filter_cons, if_pos pc, List.map_cons, ixo_cons, ixo_cons]
      have fb : f c ≠ f b := fun e => hcb (hi c (by simp) b hb pc pb e)
      rw [if_neg fb]
      by_cases e : c = a
      · rw [if_pos (by rw [e])]; omega
      · have fa : f c ≠ f a := fun q => e (hi c (by simp) a ha pc pa q)
        rw [if_neg fa]
        rw [if_neg e] at h
        have ha2 : a ∈ ρ := by
          rcases List.mem_cons.mp ha with q | q
          · exact (e q.symm).elim
          · exact q
        have := ixo_fm hi2 ha2 hb2 pa pb (show ixo ρ a < ixo ρ b by omega)
        omega
    · rw [List.filter_cons, if_neg pc]
      have e : c ≠ a := fun e => pc (by rw [e]; exact pa)
      rw [if_neg e] at h
      have ha2 : a ∈ ρ := by
        rcases List.mem_cons.mp ha with q | q
        · exact (e q.symm).elim
        · exact q
      exact ixo_fm hi2 ha2 hb2 pa pb (show ixo ρ a < ixo ρ b by omega)
theorem ixo_f {p : Nat → Bool} {a b : Nat} {ρ : List Nat} (ha : a ∈ ρ) (hb : b ∈ ρ) (pa : p a = true) (pb : p b = true) (h : ixo ρ a < ixo ρ b) : ixo (ρ.filter p) a < ixo (ρ.filter p) b := by
  have := ixo_fm (p := p) (f := fun x => x) (fun x _ y _ _ _ e => e) ha hb pa pb h
  simpa using this
def numsG (V : PL) : List (Nat × Nat) := ((List.range (3 * V.rights.length)).map fun k => (k / 3, k % 3)).filter fun q => decide (at0 (row V.limits q.1) q.2 = 1)
def spotG (V : PL) (r g : Nat) : Nat := (numsG V).idxOf (r, g)
def grA (V : PL) : List (List Nat) := (List.range V.lefts.length).map fun l => ((row V.lefts l).filter fun r => decide ((r, at0 V.groups l) ∈ numsG V)).map fun r => spotG V r (at0 V.groups l)
def grB (V : PL) : List (List Nat) := (numsG V).map fun q => (row V.rights q.1).filter fun l => decide (at0 V.groups l = q.2)
def phiG (V : PL) (s : Nat) : Nat := ((numsG V)[s]?.getD (0, 0)).1
theorem mem_numsG {V : PL} {r g : Nat} : (r, g) ∈ numsG V ↔ r < V.rights.length ∧ g < 3 ∧ at0 (row V.limits r) g = 1 := by
  unfold numsG
  rw [List.mem_filter, List.mem_map]
  simp only [List.mem_range, decide_eq_true_eq]
  constructor
  · rintro ⟨⟨k, hk, e⟩, h⟩
    cases e
    exact ⟨by omega, by omega, h⟩
  · rintro ⟨h1, h2, h3⟩
    exact ⟨⟨3 * r + g, by omega, by rw [show (3 * r + g) / 3 = r by omega, show (3 * r + g) % 3 = g by omega]⟩, h3⟩
theorem spot_at {V : PL} {r g : Nat} (h : (r, g) ∈ numsG V) : (numsG V)[spotG V r g]? = some (r, g) := by
  unfold spotG
  have hl := List.idxOf_lt_length_iff.mpr h
  rw [List.getElem?_eq_getElem hl, List.getElem_idxOf]
theorem spot_inj {V : PL} {r g r' g' : Nat} (h : (r, g) ∈ numsG V) (h' : (r', g') ∈ numsG V) (e : spotG V r g = spotG V r' g') : r = r' ∧ g = g' := by
  have a := spot_at h
  have b := spot_at h'
  rw [e, b] at a
  cases a
  exact ⟨rfl, rfl⟩
theorem phi_spot {V : PL} {r g : Nat} (h : (r, g) ∈ numsG V) : phiG V (spotG V r g) = r := by
  unfold phiG
  rw [spot_at h]
  rfl
theorem row_grA {V : PL} {l : Nat} (hl : l < V.lefts.length) : row (grA V) l = ((row V.lefts l).filter fun r => decide ((r, at0 V.groups l) ∈ numsG V)).map fun r => spotG V r (at0 V.groups l) := by
  unfold row grA
  rw [List.getD_eq_getElem?_getD, List.getElem?_map, List.getElem?_range hl]
  rfl
theorem row_grB {V : PL} {r g : Nat} (h : (r, g) ∈ numsG V) : row (grB V) (spotG V r g) = (row V.rights r).filter fun l => decide (at0 V.groups l = g) := by
  show (grB V).getD (spotG V r g) [] = _
  unfold grB
  rw [List.getD_eq_getElem?_getD, List.getElem?_map, spot_at h]
  rfl
theorem mem_grA {V : PL} {l s : Nat} (hl : l < V.lefts.length) : s ∈ row (grA V) l ↔ ∃ r ∈ row V.lefts l, (r, at0 V.groups l) ∈ numsG V ∧ s = spotG V r (at0 V.groups l) := by
  rw [row_grA hl, List.mem_map]
  constructor
  · rintro ⟨r, h, rfl⟩
    obtain ⟨h1, h2⟩ := List.mem_filter.mp h
    exact ⟨r, h1, by simpa using h2, rfl⟩
  · rintro ⟨r, h1, h2, rfl⟩
    exact ⟨r, List.mem_filter.mpr ⟨h1, by simpa using h2⟩, rfl⟩
end K90
set_option maxRecDepth 100000
set_option maxHeartbeats 2000000
/-! M23: the spots' market and the places' market. -/
namespace K90
open PySem PySem.Spec PyProof.Rows L2 RZ DL M90
structure NarG (V : PL) : Prop where
  gr : ∀ l, at0 V.groups l < 3
  st : ∀ r, r < V.rights.length → at0 V.seats r = 4
  li : ∀ r g, at0 (row V.limits r) g ≤ 1
def grV (V : PL) : PL := sPL (grA V) (grB V)
theorem Ch_grp {V : PL} (ok : V.Ok) (n : NarG V) {r l : Nat} {A : Nat → Bool} (hr : r < V.rights.length) : l ∈ ChL V r A ↔ l ∈ row V.rights r ∧ A l = true ∧ (r, at0 V.groups l) ∈ numsG V ∧ ∀ y ∈ row V.rights r, A y = true → at0 V.groups y = at0 V.groups l → ixo (row V.rights r) l ≤ ixo (row V.rights r) y := by
  unfold ChL
  rw [n.st r hr]
  have h4 : s4 (at0 (row V.limits r)) ≤ 4 := by
    unfold s4
    have h0 := n.li r 0
    have h1 := n.li r 1
    have h2 := n.li r 2
    have h3 := n.li r 3
    omega
  rw [grd_grp (ok.sd.2.1.2.2 _ (row_mem hr)).1 (gp4 ok hr) (n.li r) h4, mem_numsG]
  constructor
  · rintro ⟨a, b, c, d⟩; exact ⟨a, b, ⟨hr, n.gr l, c⟩, d⟩
  · rintro ⟨a, b, c, d⟩; exact ⟨a, b, c.2.2, d⟩
section
variable {V : PL} {e ν : Nat → Option Nat}
theorem spot_row (ok : V.Ok) {l s : Nat} (h : s ∈ row (grA V) l) : ∃ r, r ∈ row V.lefts l ∧ (r, at0 V.groups l) ∈ numsG V ∧ s = spotG V r (at0 V.groups l) ∧ phiG V s = r := by
  have hl : l < V.lefts.length := by
    rcases Nat.lt_or_ge l V.lefts.length with q | q
    · exact q
    · rw [row_out (by simpa [grA] using q)] at h; simp at h
  obtain ⟨r, h1, h2, h3⟩ := (mem_grA hl).mp h
  exact ⟨r, h1, h2, h3, by rw [h3]; exact phi_spot h2⟩
theorem row_spot (ok : V.Ok) {l r : Nat} (h : r ∈ row V.lefts l) (hn : (r, at0 V.groups l) ∈ numsG V) : spotG V r (at0 V.groups l) ∈ row (grA V) l := (mem_grA (row_lt ok h).1).mpr ⟨r, h, hn, rfl⟩
theorem mem_grB {l r g : Nat} (hn : (r, g) ∈ numsG V) : l ∈ row (grB V) (spotG V r g) ↔ l ∈ row V.rights r ∧ at0 V.groups l = g := by
  rw [row_grB hn, List.mem_filter]
  simp
theorem spot_ord (ok : V.Ok) {l r q : Nat} (hr : r ∈ row V.lefts l) (hq : q ∈ row V.lefts l) (nr : (r, at0 V.groups l) ∈ numsG V) (nq : (q, at0 V.groups l) ∈ numsG V) (h : ixo (row V.lefts l) r < ixo (row V.lefts l) q) : ixo (row (grA V) l) (spotG V r (at0 V.groups l)) < ixo (row (grA V) l) (spotG V q (at0 V.groups l)) := by
  rw [row_grA (row_lt ok hr).1]
  refine ixo_fm (p := fun r => decide ((r, at0 V.groups l) ∈ numsG V)) (f := fun r => spotG V r (at0 V.groups l)) (fun x _ y _ hx hy e => ?_) hr hq (by simpa using nr) (by simpa using nq) h
  exact (spot_inj (by simpa using hx) (by simpa using hy) e).1
theorem grB_ord {l y r g : Nat} (hn : (r, g) ∈ numsG V) (hl : l ∈ row V.rights r) (hy : y ∈ row V.rights r) (gl : at0 V.groups l = g) (gy : at0 V.groups y = g) (h : ixo (row V.rights r) l < ixo (row V.rights r) y) : ixo (row (grB V) (spotG V r g)) l < ixo (row (grB V) (spotG V r g)) y := by
  rw [row_grB hn]
  exact ixo_f hl hy (by simpa using gl) (by simpa using gy) h
theorem groups_down (ok : V.Ok) (n : NarG V) (hs : SidesOk (grA V) (grB V)) (st : StabP (grV V) e) : StabP V fun l => (e l).map (phiG V) := by
  obtain ⟨s1, s2⟩ := stab_one hs st
  have ex : ∀ l r, (e l).map (phiG V) = some r → e l = some (spotG V r (at0 V.groups l)) ∧ (r, at0 V.groups l) ∈ numsG V ∧ r ∈ row V.lefts l ∧ l ∈ row V.rights r := fun l r h => by
    cases q : e l with
    | none => rw [q] at h; cases h
    | some s =>
      rw [q] at h
      have hp : phiG V s = r := by simpa using h
      obtain ⟨h1, h2, h3, _⟩ := s1 l s q
      obtain ⟨r', g1, g2, g3, g4⟩ := spot_row ok h2
      rw [hp] at g4
      subst g4
      rw [g3] at h3
      exact ⟨by rw [g3], g2, g1, ((mem_grB g2).mp h3).1⟩
  refine ⟨fun l r h => ?_, fun l r hl hr hab hc => ?_⟩
  · obtain ⟨q1, q2, q3, q4⟩ := ex l r h
    obtain ⟨hl, hr⟩ := row_lt ok q3
    refine ⟨hl, q3, (Ch_grp ok n hr).mpr ⟨q4, by simpa using h, q2, fun y hy hy2 hg => ?_⟩⟩
    obtain ⟨p1, _⟩ := ex y r (by simpa using hy2)
    rw [hg] at p1
    have := (s1 l _ q1).2.2.2 y p1
    rw [this]
    exact Nat.le_refl _
  · obtain ⟨_, hrm⟩ := row_lt ok hr
    obtain ⟨h1, h2, h3, h4⟩ := (Ch_grp ok n hrm).mp hc
    obtain ⟨y, y1, y2⟩ := s2 l _ ((mem_grB h3).mpr ⟨h1, rfl⟩) (row_spot ok hr h3) (by
      cases q : e l with
      | none => rfl
      | some t =>
        obtain ⟨_, t2, _⟩ := s1 l t q
        obtain ⟨q', g1, g2, g3, g4⟩ := spot_row ok t2
        rw [q] at hab
        have hab : ixo (row V.lefts l) r < ixo (row V.lefts l) (phiG V t) := by simpa [abB] using hab
        rw [g4] at hab
        show decide (_ < _) = true
        rw [decide_eq_true_eq, g3]
        exact spot_ord ok hr g1 h3 g2 hab)
    obtain ⟨_, p2, p3, _⟩ := s1 y _ y1
    obtain ⟨r', g1, g2, g3, g4⟩ := spot_row ok p2
    obtain ⟨e1, e2⟩ := spot_inj h3 g2 g3
    obtain ⟨k1, k2⟩ := (mem_grB h3).mp p3
    have hle := h4 y k1 (by simp [y1, phi_spot h3]) k2
    rcases Nat.lt_or_eq_of_le hle with u | u
    · have := grB_ord h3 h1 k1 rfl k2 u
      omega
    · have := ixo_inj h1 u
      subst this
      omega
theorem groups_up (ok : V.Ok) (n : NarG V) (hs : SidesOk (grA V) (grB V)) (st : StabP V ν) : StabP (grV V) fun l => (ν l).map fun r => spotG V r (at0 V.groups l) := by
  have ir : ∀ l r, ν l = some r → l < V.lefts.length ∧ r ∈ row V.lefts l ∧ l ∈ row V.rights r ∧ (r, at0 V.groups l) ∈ numsG V ∧ ∀ y, ν y = some r → at0 V.groups y = at0 V.groups l → ixo (row V.rights r) l ≤ ixo (row V.rights r) y := fun l r h => by
    obtain ⟨h1, h2, h3⟩ := st.ir l r h
    have hr := (row_lt ok h2).2
    obtain ⟨g1, _, g3, g4⟩ := (Ch_grp ok n hr).mp h3
    refine ⟨h1, h2, g1, g3, fun y hy hg => g4 y ?_ (by simpa using hy) hg⟩
    exact ((Ch_grp ok n hr).mp (st.ir y r hy).2.2).1
  have un : ∀ l s, (ν l).map (fun r => spotG V r (at0 V.groups l)) = some s → ∃ r, ν l = some r ∧ s = spotG V r (at0 V.groups l) := fun l s h => by
    cases q : ν l with
    | none => rw [q] at h; cases h
    | some r => rw [q] at h; exact ⟨r, rfl, by simpa using h.symm⟩
  refine ⟨fun l s h => ?_, fun l s hl hs2 hab hc => ?_⟩
  · obtain ⟨r, h1, rfl⟩ := un l s h
    obtain ⟨a1, a2, a3, a4, a5⟩ := ir l r h1
    refine ⟨by simpa [grV, sPL, grA] using a1, row_spot ok a2 a4, (ChL_one hs).mpr ⟨(mem_grB a4).mpr ⟨a3, rfl⟩, by simpa using h, fun y hy he => ?_⟩⟩
    obtain ⟨q, y1, y2⟩ := un y _ (by simpa using he)
    obtain ⟨b1, b2, b3, b4, b5⟩ := ir y q y1
    obtain ⟨e1, e2⟩ := spot_inj a4 b4 y2
    subst e1
    have c1 := a5 y y1 e2.symm
    have c2 := b5 l h1 e2
    have : l = y := ixo_inj a3 (by omega)
    rw [this]
    exact Nat.le_refl _
  · have hs3 : s ∈ row (grA V) l := hs2
    obtain ⟨r, g1, g2, g3, g4⟩ := spot_row ok hs3
    subst g3
    obtain ⟨d1, d2, d3⟩ := (ChL_one hs).mp hc
    have d1 := ((mem_grB g2).mp d1).1
    have hlL : l < V.lefts.length := (row_lt ok g1).1
    have hst : abB (row V.lefts l) r (ν l) = true := by
      cases q : ν l with
      | none => rfl
      | some t =>
        rw [q] at hab
        have hab : ixo (row (grA V) l) (spotG V r (at0 V.groups l)) < ixo (row (grA V) l) (spotG V t (at0 V.groups l)) := of_decide_eq_true hab
        obtain ⟨b1, b2, b3, b4, b5⟩ := ir l t q
        show decide (_ < _) = true
        rw [decide_eq_true_eq]
        rcases Nat.lt_trichotomy (ixo (row V.lefts l) r) (ixo (row V.lefts l) t) with u | u | u
        · exact u
        · have := ixo_inj g1 u
          rw [this] at hab
          omega
        · have := spot_ord ok b2 g1 b4 g2 u
          omega
    have hrm := (row_lt ok g1).2
    refine st.nb l r hlL g1 hst ((Ch_grp ok n hrm).mpr ⟨d1, by simp, g2, fun y hy hy2 hg => ?_⟩)
    have hy2 : ν y = some r ∨ y = l := by simpa using hy2
    rcases hy2 with q | q
    · have := d3 y ((mem_grB g2).mpr ⟨hy, hg⟩) (by simp [q, hg])
      rcases Nat.lt_or_ge (ixo (row V.rights r) y) (ixo (row V.rights r) l) with u | u
      · have := grB_ord g2 hy d1 hg rfl u
        omega
      · exact u
    · subst q; exact Nat.le_refl _
theorem groups_tr (ok : V.Ok) (n : NarG V) (hs : SidesOk (grA V) (grB V)) : Tr V (grV V) (phiG V) where
  len := by simp [grV, sPL, grA]
  mem := fun l s h => by
    obtain ⟨r, g1, g2, g3, g4⟩ := spot_row ok (V := V) h
    rw [g4]; exact g1
  ord := fun l s t h1 h2 hle => by
    obtain ⟨r, a1, a2, a3, a4⟩ := spot_row ok (V := V) h1
    obtain ⟨q, b1, b2, b3, b4⟩ := spot_row ok (V := V) h2
    rw [a4, b4]
    rcases Nat.lt_or_ge (ixo (row V.lefts l) q) (ixo (row V.lefts l) r) with u | u
    · have := spot_ord ok b1 a1 b2 a2 u
      rw [← a3, ← b3] at this
      have hle : ixo (row (grA V) l) s ≤ ixo (row (grA V) l) t := hle
      omega
    · exact u
  down := fun e st => groups_down ok n hs st
  up := fun ν st => ⟨_, groups_up ok n hs st, fun l => by
    cases q : ν l with
    | none => rfl
    | some r =>
      have h := st.ir l r q
      have := ((Ch_grp ok n (row_lt ok h.2.1).2).mp h.2.2).2.2.1
      simp [phi_spot this]⟩
theorem numsG_len : (numsG V).length ≤ 3 * V.rights.length := by
  unfold numsG
  refine Nat.le_trans (List.length_filter_le _ _) ?_
  simp
theorem spot_lt {r g : Nat} (h : (r, g) ∈ numsG V) : spotG V r g < (numsG V).length := List.idxOf_lt_length_iff.mpr h
theorem grp_ok (ok : V.Ok) (hr : V.rights.length ≤ 6) (h1 : numsG V ≠ []) : SidesOk (grA V) (grB V) := by
  obtain ⟨⟨a1, a2, a3⟩, ⟨b1, b2, b3⟩, c⟩ := ok.sd
  have hlen := @numsG_len V
  refine ⟨⟨by simpa [grA] using a1, by simpa [grA] using a2, fun r hr => ?_⟩, ⟨?_, by simp [grB]; omega, fun r hr => ?_⟩, fun k hk x hx => ?_⟩
  · obtain ⟨l, hl, rfl⟩ := List.mem_map.mp hr
    have hl := List.mem_range.mp hl
    refine ⟨map_inj_nd (List.Pairwise.filter _ (a3 _ (row_mem hl)).1) fun x hx y hy e => ?_, fun x hx => ?_, Nat.le_refl _⟩
    · exact (spot_inj (by simpa using (List.mem_filter.mp hx).2) (by simpa using (List.mem_filter.mp hy).2) e).1
    · obtain ⟨q, hq, rfl⟩ := List.mem_map.mp hx
      have := spot_lt (V := V) (r := q) (g := at0 V.groups l) (by simpa using (List.mem_filter.mp hq).2)
      omega
  · rw [show (grB V).length = (numsG V).length by simp [grB]]
    exact List.length_pos_iff.mpr h1
  · obtain ⟨⟨q, g⟩, hq, rfl⟩ := List.mem_map.mp hr
    have hq2 := (mem_numsG.mp hq).1
    have := b3 _ (row_mem hq2)
    refine ⟨List.Pairwise.filter _ this.1, fun x hx => ?_, by simpa [grA] using a2⟩
    simpa [grA] using this.2.1 x (List.mem_filter.mp hx).1
  · obtain ⟨l, hl, rfl⟩ := List.mem_map.mp hk
    obtain ⟨q, hq, rfl⟩ := List.mem_map.mp hx
    simpa [grB] using spot_lt (V := V) (r := q) (g := at0 V.groups l) (by simpa using (List.mem_filter.mp hq).2)
end
end K90
set_option maxRecDepth 100000
set_option maxHeartbeats 2000000
/-! M24: what the law's walks lean on. -/
namespace K90
open PySem PySem.Spec PyProof.Rows L2 RZ DL M90
theorem map_id_opt (e : List (Option Nat)) : e.map (Option.map fun x => x) = e := by
  have : (Option.map fun x : Nat => x) = fun x => x := by
    funext x
    cases x <;> rfl
  rw [this]
  simp
theorem tr_id (V : PL) : Tr V V fun x => x where
  len := rfl
  mem := fun _ _ h => h
  ord := fun _ _ _ _ _ h => h
  down := fun e st => by
    have : (fun l => (e l).map fun x : Nat => x) = e := by
      funext l
      cases e l <;> rfl
    rw [this]
    exact st
  up := fun ν st => ⟨ν, st, fun l => by cases ν l <;> rfl⟩
section
variable {V : PL} {o e d : List (Option Nat)}
theorem best_uniq (ok : V.Ok) (io : IsOut V o) (no : ∀ l r, ¬ Blk V o l r) (bo : BestP V o) (ie : IsOut V e) (ne : ∀ l r, ¬ Blk V e l r) (be : BestP V e) : o = e := by
  have := tr_best (tr_id V) ok ok io no bo ie ne be
  rw [map_id_opt] at this
  exact this
theorem paired_map {f : Nat → Nat} : paired (e.map (Option.map f)) = paired e := by
  unfold paired
  rw [List.length_map]
  apply List.filter_congr
  intro l _
  rw [oat_map rfl]
  cases oat e l <;> rfl
theorem list_oat (o : List (Option Nat)) : (List.range o.length).map (oat o) = o := by
  apply List.ext_getElem?
  intro i
  rw [List.getElem?_map]
  by_cases h : i < o.length
  · rw [List.getElem?_range h, List.getElem?_eq_getElem h]
    simp [oat, h]
  · rw [List.getElem?_eq_none (by simpa using h), List.getElem?_eq_none (by omega)]
    rfl
theorem memb_count {r : Nat} : (memb o r).length = (o.filter fun x => decide (x = some r)).length := by
  have h := congrArg (fun z => (z.filter fun x => decide (x = some r)).length) (list_oat o)
  have h : (((List.range o.length).map (oat o)).filter fun x => decide (x = some r)).length = (o.filter fun x => decide (x = some r)).length := h
  rw [← h, List.filter_map, List.length_map]
  rfl
structure Seatd (V : PL) (d : List (Option Nat)) : Prop where
  len : d.length = V.lefts.length
  fit : ∀ l r, oat d l = some r → l < V.lefts.length ∧ r ∈ row V.lefts l ∧ l ∈ row V.rights r
  cnt : ∀ r, (memb d r).length ≤ at0 V.seats r
theorem memb_nd {r : Nat} : (memb o r).Nodup := List.Pairwise.filter _ List.nodup_range
theorem seatd_out (ok : V.Ok) (w : Wide V) (s : Seatd V d) : IsOut V d where
  len := s.len
  fit := fun l r h hl => by
    obtain ⟨_, h2, h3⟩ := s.fit l r h
    exact ⟨(row_lt ok h2).2, fitB_iff.mpr ⟨h2, h3⟩⟩
  tak := fun r hr => by
    unfold takenL asc
    rw [show memb d r = (List.range V.lefts.length).filter fun l => decide (oat d l = some r) by unfold memb; rw [s.len]]
    apply List.filter_congr
    intro l hl
    apply decide_eq_decide.mpr
    rw [← show memb d r = (List.range V.lefts.length).filter fun l => decide (oat d l = some r) by unfold memb; rw [s.len]]
    constructor
    · intro h
      exact mem_memb.mp (by simpa using (Ch_in h).2)
    · intro h
      have hnd := (ok.sd.2.1.2.2 _ (row_mem hr)).1
      refine (Ch_many ok w hr).mpr ⟨(s.fit l r h).2.2, by simpa using mem_memb.mpr h, ?_⟩
      have key : (((row V.rights r).take (ixo (row V.rights r) l)).filter (fun x => decide (x ∈ memb d r)) ++ [l]).length ≤ (memb d r).length := by
        refine List.Nodup.length_le_of_subset ?_ ?_
        · rw [List.nodup_append]
          refine ⟨List.Pairwise.filter _ (hnd.sublist (List.take_sublist _ _)), by simp, fun x hx y hy e => ?_⟩
          have hy : y = l := by simpa using hy
          subst hy
          subst e
          have := ((take_ixo hnd).mp (List.mem_filter.mp hx).1).2
          omega
        · intro x hx
          rcases List.mem_append.mp hx with h1 | h1
          · simpa using (List.mem_filter.mp h1).2
          · rw [List.mem_singleton.mp h1]
            exact mem_memb.mpr h
      have := s.cnt r
      simp at key
      omega
theorem ahead_get {P : Nat → Bool} {l : Nat} : ∀ {ρ : List Nat} {k : Nat}, ρ.Nodup → (ρ.filter P)[k]? = some l → ahead ρ P l = k
  | [], k, _, h => by simp at h
  | a :: ρ, k, hn, h => by
    rw [List.nodup_cons] at hn
    rw [ahead_cons]
    rw [List.filter_cons] at h
    by_cases pa : P a = true
    · rw [if_pos pa] at h
      cases k with
      | zero =>
        have : a = l := by simpa using h
        rw [if_pos this]
      | succ k =>
        rw [List.getElem?_cons_succ] at h
        have hl : l ∈ ρ := (List.mem_filter.mp (List.mem_of_getElem? h)).1
        have ne : a ≠ l := fun e => hn.1 (e ▸ hl)
        rw [if_neg ne, if_pos pa, ahead_get hn.2 h]
        omega
    · rw [if_neg pa] at h
      have hl : l ∈ ρ := (List.mem_filter.mp (List.mem_of_getElem? h)).1
      have ne : a ≠ l := fun e => hn.1 (e ▸ hl)
      rw [if_neg ne, if_neg pa, ahead_get hn.2 h]
      omega
theorem nums_filter {S : List Nat} {m r : Nat} (hr : r < m) : (List.range (ownersL S m).length).filter (fun s => decide (at0 (ownersL S m) s = r)) = numsL S r := by
  refine sorted_unique (n := 0) ((List.pairwise_le_range).filter _) ?_ ?_
  · unfold numsL
    rw [List.pairwise_map]
    exact (List.pairwise_le_range (n := at0 S r)).imp fun h => by omega
  · refine (List.perm_ext_iff_of_nodup (List.Pairwise.filter _ List.nodup_range) nums_nd).mpr fun s => ?_
    simp only [List.mem_filter, List.mem_range, decide_eq_true_eq]
    constructor
    · rintro ⟨h1, h2⟩
      obtain ⟨q, hq, hs⟩ := own_ex (S := S) (m := m) h1
      have := own_phi hq hs
      rw [h2] at this
      subst this
      exact hs
    · intro h
      exact ⟨start_total hr h, own_phi hr h⟩
/-- a filling under way: those of C have their seats -/
structure Fil (V : PL) (d : List (Option Nat)) (C : Nat → Nat → Prop) (f : List (Option Nat)) : Prop where
  len : f.length = V.lefts.length
  yes : ∀ l r, oat d l = some r → C r l → oat f l = fillE V (oat d) l
  no : ∀ l, (∀ r, oat d l = some r → ¬ C r l) → oat f l = none
theorem Fil.start {n : Nat} (hn : n = V.lefts.length) : Fil V d (fun _ _ => False) (List.replicate n none) where
  len := by simp [hn]
  yes := fun _ _ _ h => h.elim
  no := fun l _ => by
    unfold oat
    rw [List.getD_eq_getElem?_getD, List.getElem?_replicate]
    split <;> rfl
theorem Fil.to {C C' : Nat → Nat → Prop} {f : List (Option Nat)} (h : Fil V d C f) (hc : ∀ l r, oat d l = some r → (C r l ↔ C' r l)) : Fil V d C' f where
  len := h.len
  yes := fun l r h1 h2 => h.yes l r h1 ((hc l r h1).mpr h2)
  no := fun l h1 => h.no l fun r h2 h3 => h1 r h2 ((hc l r h2).mp h3)
def rowOf (V : PL) (d : List (Option Nat)) (r : Nat) : List Nat := (row V.rights r).filter fun l => decide (oat d l = some r)
theorem Fil.put (ok : V.Ok) {i k x : Nat} {f : List (Option Nat)} (hi : i < V.rights.length) (h : Fil V d (fun r l => r < i ∨ (r = i ∧ l ∈ (rowOf V d i).take k)) f) (hx : (rowOf V d i)[k]? = some x) :
    Fil V d (fun r l => r < i ∨ (r = i ∧ l ∈ (rowOf V d i).take (k + 1))) (f.set x (some (startL V.seats i + k))) := by
  have hm := List.mem_of_getElem? hx
  have hm2 := List.mem_filter.mp hm
  have hd : oat d x = some i := by simpa using hm2.2
  have hxl : x < V.lefts.length := by
    have := (ok.sd.2.1.2.2 _ (row_mem hi)).2.1 x hm2.1
    exact this
  have hnd := (ok.sd.2.1.2.2 _ (row_mem hi)).1
  have ha : ahead (row V.rights i) (memP (oat d) i) x = k := ahead_get hnd hx
  have hv : fillE V (oat d) x = some (startL V.seats i + k) := by
    unfold fillE
    rw [hd]
    show some (startL V.seats i + ahead (row V.rights i) (memP (oat d) i) x) = _
    rw [ha]
  have tk : ∀ l, l ∈ (rowOf V d i).take (k + 1) ↔ l ∈ (rowOf V d i).take k ∨ l = x := fun l => by
    rw [List.take_add_one, hx, List.mem_append]
    simp
  refine ⟨by rw [List.length_set]; exact h.len, fun l r h1 h2 => ?_, fun l h1 => ?_⟩
  · by_cases e : l = x
    · subst e
      rw [oat_set_same (by rw [h.len]; exact hxl), hv]
    · rw [oat_set_ne e]
      refine h.yes l r h1 ?_
      rcases h2 with h2 | ⟨h2, h3⟩
      · exact .inl h2
      · rcases (tk l).mp h3 with h3 | h3
        · exact .inr ⟨h2, h3⟩
        · exact (e h3).elim
  · have e : l ≠ x := fun e => by
      subst e
      exact h1 i hd (.inr ⟨rfl, (tk l).mpr (.inr rfl)⟩)
    rw [oat_set_ne e]
    refine h.no l fun r h2 h3 => h1 r h2 ?_
    rcases h3 with h3 | ⟨h3, h4⟩
    · exact .inl h3
    · exact .inr ⟨h3, (tk l).mpr (.inl h4)⟩
theorem Fil.next {i : Nat} {f : List (Option Nat)} (s : Seatd V d) (h : Fil V d (fun r l => r < i ∨ (r = i ∧ l ∈ (rowOf V d i).take (rowOf V d i).length)) f) : Fil V d (fun r _ => r < i + 1) f := h.to fun l r hl => by
  rw [List.take_length]
  constructor
  · rintro (h | ⟨h, _⟩) <;> omega
  · intro h
    by_cases e : r = i
    · subst e
      exact .inr ⟨rfl, List.mem_filter.mpr ⟨(s.fit l r hl).2.2, by simpa using hl⟩⟩
    · exact .inl (by omega)
theorem Fil.open_ {i : Nat} {f : List (Option Nat)} (h : Fil V d (fun r _ => r < i) f) : Fil V d (fun r l => r < i ∨ (r = i ∧ l ∈ (rowOf V d i).take 0)) f := h.to fun l r hl => by simp
theorem Fil.done (ok : V.Ok) (s : Seatd V d) (w : Wide V) {f : List (Option Nat)} (h : Fil V d (fun r _ => r < V.rights.length) f) : f = fillL V d := by
  have ff := fill_out ok w (seatd_out ok w s)
  refine out_ext (by rw [h.len, fillL_len]) fun l => ?_
  rw [fillL_at ok ff]
  cases e : oat d l with
  | none =>
    rw [h.no l fun r hr => by rw [e] at hr; cases hr]
    unfold fillE
    rw [e]
    rfl
  | some r => exact h.yes l r e (row_lt ok (s.fit l r e).2.1).2
/-- no spots: nobody is seated -/
theorem none_out (ok : V.Ok) (n : NarG V) (hn : numsG V = []) (io : IsOut V o) (no : ∀ l r, ¬ Blk V o l r) : o = List.replicate V.lefts.length none := by
  have st := stab_of ok io no
  refine out_ext (by rw [io.len]; simp) fun l => ?_
  have e : oat (List.replicate V.lefts.length none) l = none := by
    unfold oat
    rw [List.getD_eq_getElem?_getD, List.getElem?_replicate]
    split <;> rfl
  rw [e]
  cases q : oat o l with
  | none => rfl
  | some r =>
    obtain ⟨h1, h2, h3⟩ := st.ir l r q
    have := ((Ch_grp ok n (row_lt ok h2).2).mp h3).2.2.1
    rw [hn] at this
    cases this
end
end K90
set_option maxRecDepth 100000
set_option maxHeartbeats 2000000
/-! M25: steps of the law's walks. -/
namespace K90
open PySem PySem.Spec PyProof.Rows L2 RZ DL M90
theorem add_in {k : Int} {j n : Nat} {P : Dat → Prop} (hk : k = (j : Int)) (h : P (nD (j + n))) : fAdd (.int k) (nD n) P := by
  subst hk
  have e : (j : Int) + (n : Int) = ((j + n : Nat) : Int) := by omega
  show P (.int ((j : Int) + (n : Int)))
  rw [e]
  exact h
theorem add_n1 {n : Nat} {P : Dat → Prop} (h : P (nD (n + 1))) : fAdd (nD n) (.int 1) P := h
theorem take_in {k : Int} {P : Dat → Prop} (n : Nat) (hk : k = (n : Int)) (h0 : 0 < n) (h1 : n ≤ 1000) (h : ∀ d : Nat, d < n → P (nD d)) : S__law_take [.cell, .int k] P := by
  subst hk
  exact ⟨n, rfl, h0, h1, h⟩
theorem drawn_sides {n m : Nat} {f f' : Bool} {A B : List (List Nat)} (hA : Drawn n m f A) (hB : Drawn m n f' B) (hn : 1 ≤ n ∧ n ≤ 20) (hm : 1 ≤ m ∧ m ≤ 20) : SidesOk A B := by
  obtain ⟨a1, a2, _⟩ := hA
  obtain ⟨b1, b2, _⟩ := hB
  refine ⟨⟨by omega, by omega, fun r hr => ⟨(a2 r hr).1, fun x hx => ?_, by omega⟩⟩, ⟨by omega, by omega, fun r hr => ?_⟩, fun r hr x hx => ?_⟩
  · have := (a2 r hr).2.1 x hx
    omega
  · rw [a1]; exact b2 r hr
  · rw [b1]; exact (a2 r hr).2.1 x hx
section
variable {α : Type} {M : Nat} {T Te : TD} {U : TAD} {G : GD} {Tt : TTD} {ε : Ev} {vs : List Nat} {P : Dat → Prop}
/-- a comprehension over a range whose members are chosen freely -/
theorem lc_any {n : Nat} (F : α → Dat) (p : α → Prop) (hT : ∀ P : List Dat → Prop, P [.int (n : Int)] → U ε P) (hl : n ≤ M) (hM : n ≤ 100000)
    (h : ∀ a, a < n → ∀ (R : Dat → Prop) (R0 : Prop), (∀ x, p x → R (F x)) → G (.int (a : Int)) (wipeD ε vs) fun ε2 => Tt ε2 fun b => if b = true then Te ε2 fun y => R y else R0) (hP : ∀ l : List α, l.length = n → (∀ x ∈ l, p x) → P (.lst (l.map F))) : dLc M (iR1 U) G Tt Te vs ε P :=
  hT _ ⟨n, rfl, by omega, by omega, by simp [rngD]; exact hl, fun i acc => ∃ l : List α, l.length = i ∧ (∀ x ∈ l, p x) ∧ acc = l.map F, ⟨[], rfl, by simp, rfl⟩, fun i d acc hd ⟨l, h1, h2, h3⟩ => by
    have hi : i < n := by
      have := (List.getElem?_eq_some_iff.mp hd).1
      simpa [rngD] using this
    have : d = .int (i : Int) := by
      simp [rngD, hi] at hd
      rw [← hd]
    subst this
    refine h i hi (fun y => ∃ l : List α, l.length = i + 1 ∧ (∀ x ∈ l, p x) ∧ acc ++ [y] = l.map F) _ fun x hx => ⟨l ++ [x], by simp [h1], fun z hz => ?_, by simp [h3]⟩
    rcases List.mem_append.mp hz with q | q
    · exact h2 z q
    · rw [List.mem_singleton.mp q]; exact hx, fun acc ⟨l, h1, h2, h3⟩ => by
    have h1' : l.length = n := by simpa [rngD] using h1
    rw [h3]
    exact hP l h1' h2⟩
end
theorem tup_in {xs : List Dat} {P : Dat → Prop} (h : P (.tup xs)) : fTup [.lst xs] P := h
theorem cutM {α : Type} (xs : List α) (a : Nat) {x : α} (h : xs[a]? = some x) : cut xs (some (a : Int)) (some ((a + 1 : Nat) : Int)) = [x] := by
  have hl := (List.getElem?_eq_some_iff.mp h).1
  unfold cut
  rw [HT.sIx_nat, HT.sIx_nat, Nat.min_eq_left (by omega), Nat.min_eq_left (by omega), show a + 1 - a = 1 by omega, List.take_one]
  rw [List.head?_drop, h]
  rfl
theorem cut21 (a b : Dat) : cut [a, b] none (some 1) = [a] := by
  have := cutT [a, b] 1
  exact this
@[simp] theorem gK_210 (a b c : Dat) : gK [2, 1, 0] [] [a, b, c] = [c, b, a] := rfl
@[simp] theorem gK_10 (a b : Dat) : gK [1, 0] [] [a, b] = [b, a] := rfl
@[simp] theorem gK_0 (a : Dat) : gK [0] [] [a] = [a] := rfl
@[simp] theorem gK_43210 (a b c d e : Dat) : gK [4, 3, 2, 1, 0] [] [a, b, c, d, e] = [e, d, c, b, a] := rfl
theorem get_oat {o : List (Option Nat)} {l : Nat} (h : l < o.length) : (o.map oD)[l]? = some (oD (oat o l)) := by simp [oat, h]
theorem rks_set {A : List (List Nat)} {a : Nat} {r : List Nat} (ha : a < A.length) : (A.map rk).take a ++ rk r :: (A.map rk).drop (a + 1) = (A.set a r).map rk := by
  rw [List.map_set, List.set_eq_take_append_cons_drop, if_pos (by simpa using ha)]
@[simp] theorem bb_same {b : Bool} {X : Prop} : ((b = false ∧ X) ∨ (b = true ∧ X)) = X := by
  apply propext
  cases b <;> simp
theorem start_le {S : List Nat} {b : Nat} (h : ∀ r, at0 S r ≤ b) : ∀ m, startL S m ≤ m * b
  | 0 => by simp [startL, ownersL]
  | m + 1 => by
    have := start_le h m
    have := h m
    rw [start_succ, Nat.succ_mul]
    omega
theorem rep_flat {α : Type} (n : Nat) (a : α) : (List.replicate n [a]).flatten = List.replicate n a := by
  induction n with
  | zero => rfl
  | succ n ih => rw [List.replicate_succ, List.flatten_cons, ih]; rfl
theorem at0_all {S : List Nat} {p : Nat → Prop} (h : ∀ x ∈ S, p x) (r : Nat) : r < S.length → p (at0 S r) := fun hr => h _ (at0_mem hr)
theorem for_zip {M : Nat} {U : TAD} {G : GD} {Ts : TSD} {E : DE} {ε : Ev} {xs ys : List Dat} (hT : ∀ P : List Dat → Prop, P [.lst xs, .lst ys] → U ε P) (hl : xs.length = ys.length) (hM : xs.length ≤ M) (Iv : Nat → Ev → Prop) (h0 : Iv 0 ε)
    (hs : ∀ i x y ε', xs[i]? = some x → ys[i]? = some y → Iv i ε' → G (.tup [x, y]) ε' fun ε2 => Ts { E with nx := Iv (i + 1), ct := Iv (i + 1), bk := E.nx } ε2) (hd : ∀ ε', Iv xs.length ε' → E.nx ε') : sFor M (iZp U) G Ts E ε :=
  hT _ ⟨_, _, xs, ys, rfl, .inl ⟨rfl, rfl⟩, by rw [zipD_len]; omega, Iv, h0, fun i d ε' h1 h2 => by
    have hi := (List.getElem?_eq_some_iff.mp h1).1
    rw [zipD_len] at hi
    have hx : i < xs.length := by omega
    have hy : i < ys.length := by omega
    rw [zipD_get (List.getElem?_eq_getElem hx) (List.getElem?_eq_getElem hy)] at h1
    cases h1
    exact hs i _ _ ε' (List.getElem?_eq_getElem hx) (List.getElem?_eq_getElem hy) h2, by rw [zipD_len, Nat.min_eq_left (by omega)]; exact hd⟩
theorem good_oD (n : Nat) (x : Option Nat) : goodD n (oD x) := by
  cases n with
  | zero => cases x with
    | none => exact .inl rfl
    | some b => exact .inr (.inr ⟨_, rfl⟩)
  | succ n => cases x with
    | none => exact .inl (.inl rfl)
    | some b => exact .inl (.inr (.inr ⟨_, rfl⟩))
theorem good_tup {n : Nat} {xs : List Dat} (h : xs.length ≤ 100) (h2 : ∀ x ∈ xs, goodD n x) : goodD (n + 1) (.tup xs) := .inr ⟨xs, .inl rfl, h, h2⟩
theorem good_lst {n : Nat} {xs : List Dat} (h : xs.length ≤ 100) (h2 : ∀ x ∈ xs, goodD n x) : goodD (n + 1) (.lst xs) := .inr ⟨xs, .inr rfl, h, h2⟩
theorem good_out {n : Nat} {o : List (Option Nat)} (h : o.length ≤ 100) : goodD (n + 1) (outD o) := good_tup (by simpa using h) fun x hx => by
  obtain ⟨y, _, rfl⟩ := List.mem_map.mp hx
  exact good_oD n y
theorem good_rk {n : Nat} {r : List Nat} (h : r.length ≤ 100) : goodD (n + 1) (rk r) := good_tup (by simpa using h) fun x hx => by
  obtain ⟨y, _, rfl⟩ := List.mem_map.mp hx
  exact good_oD n (some y)
theorem mem_oat {o : List (Option Nat)} {x : Option Nat} (h : x ∈ o) : ∃ l, l < o.length ∧ oat o l = x := by
  obtain ⟨l, hl, e⟩ := List.mem_iff_getElem.mp h
  exact ⟨l, hl, by simp [oat, hl, e]⟩
theorem paired_len {o : List (Option Nat)} : (paired o).length ≤ o.length := by
  unfold paired
  refine Nat.le_trans (List.length_filter_le _ _) ?_
  simp
theorem seatd_put {V : PL} {d : List (Option Nat)} {l r : Nat} (s : Seatd V d) (hn : oat d l = none) (hl : l < V.lefts.length) (h1 : r ∈ row V.lefts l) (h2 : l ∈ row V.rights r) (h3 : (memb d r).length < at0 V.seats r) : Seatd V (d.set l (some r)) where
  len := by rw [List.length_set]; exact s.len
  fit := fun x q h => by
    by_cases e : x = l
    · subst e
      rw [oat_set_same (by rw [s.len]; exact hl)] at h
      cases h
      exact ⟨hl, h1, h2⟩
    · rw [oat_set_ne e] at h
      exact s.fit x q h
  cnt := fun q => by
    have sub : ∀ x, x ∈ memb (d.set l (some r)) q → (x = l ∧ q = r) ∨ x ∈ memb d q := fun x hx => by
      have hx := mem_memb.mp hx
      by_cases e : x = l
      · subst e
        rw [oat_set_same (by rw [s.len]; exact hl)] at hx
        cases hx
        exact .inl ⟨rfl, rfl⟩
      · rw [oat_set_ne e] at hx
        exact .inr (mem_memb.mpr hx)
    by_cases e : q = r
    · subst e
      have := List.Nodup.length_le_of_subset (l₁ := memb (d.set l (some q)) q) (l₂ := l :: memb d q) memb_nd fun x hx => by
        rcases sub x hx with ⟨h, _⟩ | h
        · simp [h]
        · simp [h]
      simp at this
      omega
    · have := List.Nodup.length_le_of_subset (l₁ := memb (d.set l (some r)) q) (l₂ := memb d q) memb_nd fun x hx => by
        rcases sub x hx with ⟨_, h⟩ | h
        · exact (e h).elim
        · exact h
      have := s.cnt q
      omega
theorem seatd_non {V : PL} {d : List (Option Nat)} {l : Nat} (s : Seatd V d) (hn : oat d l = none) (hl : l < V.lefts.length) : d.set l none = d := by
  refine out_ext (by simp) fun x => ?_
  by_cases e : x = l
  · subst e
    rw [oat_set_same (by rw [s.len]; exact hl), hn]
  · rw [oat_set_ne e]
theorem seatd_start {V : PL} {n : Nat} (hn : n = V.lefts.length) : Seatd V (List.replicate n none) where
  len := by simp [hn]
  fit := fun l r h => by
    have : oat (List.replicate n none) l = none := by
      unfold oat
      rw [List.getD_eq_getElem?_getD, List.getElem?_replicate]
      split <;> rfl
    rw [this] at h
    cases h
  cnt := fun r => by
    have : memb (List.replicate n none) r = [] := by
      apply List.eq_nil_iff_forall_not_mem.mpr
      intro x hx
      have hx := mem_memb.mp hx
      have : oat (List.replicate n none) x = none := by
        unfold oat
        rw [List.getD_eq_getElem?_getD, List.getElem?_replicate]
        split <;> rfl
      rw [this] at hx
      cases hx
    rw [this]
    simp
theorem oat_rep {n l : Nat} : oat (List.replicate n none) l = none := by
  unfold oat
  rw [List.getD_eq_getElem?_getD, List.getElem?_replicate]
  split <;> rfl
theorem rep_oD {n : Nat} : (List.replicate n [Dat.non]).flatten = (List.replicate n (none : Option Nat)).map oD := by
  rw [rep_flat, List.map_replicate]
  rfl
theorem fIx_lo {r : List (Option Nat)} {a : Nat} {P : Dat → Prop} (h : a < r.length) : fIx (.lst (r.map oD)) (nD a) P = P (oD (oat r a)) := fIx_out h
theorem at0_nums {S : List Nat} {r k : Nat} (h : k < at0 S r) : at0 (numsL S r) k = startL S r + k := by
  unfold numsL
  simp [at0] at h ⊢
  simp [h]
theorem nums_len {S : List Nat} {r : Nat} : (numsL S r).length = at0 S r := by simp [numsL]
theorem rowOf_len {V : PL} (ok : V.Ok) {d : List (Option Nat)} (s : Seatd V d) {r : Nat} (hr : r < V.rights.length) : (rowOf V d r).length ≤ at0 V.seats r := by
  refine Nat.le_trans (List.Nodup.length_le_of_subset (l₂ := memb d r) (List.Pairwise.filter _ (ok.sd.2.1.2.2 _ (row_mem hr)).1) fun x hx => ?_) (s.cnt r)
  have := (List.mem_filter.mp hx).2
  exact mem_memb.mpr (by simpa using this)
theorem for_lstN {M : Nat} {T : TD} {G : GD} {Ts : TSD} {E : DE} {ε : Ev} (h : T ε fun d => ∃ ds, d = .lst ds ∧ ds.length ≤ M ∧ ∃ Iv : Nat → Ev → Prop, Iv 0 ε ∧ (∀ i d ε', ds[i]? = some d → Iv i ε' → G d ε' fun ε2 => Ts { E with nx := Iv (i + 1), ct := Iv (i + 1), bk := E.nx } ε2) ∧ ∀ ε', Iv ds.length ε' → E.nx ε') : sFor M (iL T) G Ts E ε := h
theorem eqD_pair {a b : Nat × Nat} : eqD (pairD a) (pairD b) = decide (a = b) := by
  obtain ⟨a1, a2⟩ := a
  obtain ⟨b1, b2⟩ := b
  have : eqD (pairD (a1, a2)) (pairD (b1, b2)) = (eqD (nD a1) (nD b1) && (eqD (nD a2) (nD b2) && true)) := by simp only [pairD, eqD, eqDs]
  rw [this, eqD_nn, eqD_nn, Bool.and_true]
  by_cases h1 : a1 = b1 <;> by_cases h2 : a2 = b2 <;> simp [h1, h2]
theorem any_pair {l : List (Nat × Nat)} {q : Nat × Nat} : ((l.map pairD).any fun z => eqD z (pairD q)) = decide (q ∈ l) := by
  induction l with
  | nil => rfl
  | cons a l ih =>
    rw [List.map_cons, List.any_cons, ih, eqD_pair]
    by_cases h : a = q
    · subst h; simp
    · have : ¬ q = a := fun e => h e.symm
      simp [h, this]
theorem pl_pair {n : Nat} {q : Nat × Nat} : pl (n + 1) (pairD q) = true := by simp [pairD]
theorem dLIx_pair {l : List (Nat × Nat)} {q : Nat × Nat} (h : q ∈ l) : (l.map pairD)[l.idxOf q]? = some (pairD q) ∧ ∀ m z, m < l.idxOf q → (l.map pairD)[m]? = some z → eqD z (pairD q) = false := by
  have hl : l.idxOf q < l.length := List.idxOf_lt_length_iff.mpr h
  refine ⟨?_, fun m z hm hz => ?_⟩
  · rw [List.getElem?_map, List.getElem?_eq_getElem hl, List.getElem_idxOf]
    rfl
  · rw [List.getElem?_map] at hz
    have hml : m < l.length := by omega
    rw [List.getElem?_eq_getElem hml] at hz
    cases hz
    have : l[m] ≠ q := fun e => by
      have h2 := List.not_of_lt_findIdx (p := (· == q)) (xs := l) (i := m) hm
      simp at h2
      exact h2 e
    rw [eqD_pair]
    simp [this]
theorem pl_rks (n : Nat) {x : List (List Nat)} : pl (n + 2) (rks x) = true := by simp [rks, rk]
theorem eqD_tnil {xs : List Dat} : eqD (.tup xs) (.tup []) = decide (xs = []) := by
  cases xs <;> simp [eqD, eqDs]
theorem rep4 {m : Nat} : (List.replicate m [Dat.int 4]).flatten = (List.replicate m 4).map nD := by
  rw [rep_flat, List.map_replicate]
  rfl
theorem rep0 {m : Nat} : (List.replicate m [Dat.int 0]).flatten = (List.replicate m 0).map nD := by
  rw [rep_flat, List.map_replicate]
  rfl
theorem paired_rep {n : Nat} : paired (List.replicate n none) = [] := by
  apply List.eq_nil_iff_forall_not_mem.mpr
  intro x hx
  have := (List.mem_filter.mp hx).2
  rw [oat_rep] at this
  cases this
theorem memb_rep {n r : Nat} : memb (List.replicate n none) r = [] := by
  apply List.eq_nil_iff_forall_not_mem.mpr
  intro x hx
  have := mem_memb.mp hx
  rw [oat_rep] at this
  cases this
theorem map_zero (m : Nat) : (List.range m).map (fun _ => 0) = List.replicate m 0 := by
  rw [List.map_const']
  simp
theorem rks_nil : rks [] = .tup [] := rfl
theorem pPl_eq {C : Addr} {V : PL} : Dat.obj C (fsP V) = pPl C V := rfl
end K90
set_option maxRecDepth 100000
set_option maxHeartbeats 4000000
namespace K90
open PySem PySem.Spec PyProof.Rows L2 RZ DL
open C8 (call_isC pe_gc InsC)
open M90
def S__law_more_right : List Dat → (Dat → Prop) → Prop := fun ds P => ∃ b : Bool, ds = [.cell, .bl b] ∧ P (.bl true)
theorem len__law_more_right (ds : List Dat) (Q : Dat → Prop) (h : S__law_more_right ds Q) : ds.length = P__law_more_right.length := by
  obtain ⟨n, rfl, _⟩ := h; rfl
section
variable {P : Program} {w : World} {K : PySem.W.Frag} {mg : Str → Option Value} {base : Heap}
theorem ok__law_more_right (g : Fx K mg) : FnOk P w K mg base L2.CX0 9 g.f__law_more_right g.fd__law_more_right P__law_more_right (spF 1000000 S__law_more_right) := by
  refine okD g.F__law_more_right sc__law_more_right len__law_more_right (fun cdv A outer s H E hr => ?_)
  have nd := (sc__law_more_right).nd
  refine ⟨_, SDs.cost (sds_cons (sd_par (i := 2) (j := 3) (pmd_cons (m := .rep) (pd_op op_addA od_add (pd_int).toSh ((pd_call (ok__law_take g) (hr.mono (by decide)) (by rfl) g.g__law_take g.F__law_take.kp (b__law_take g) (pad_cons (pd_var (pv 0)) (pad_cons pd_int pad_nil)))).toSh) (pmd_cons (m := .rep) (pd_op op_addA od_add (pd_int).toSh ((pd_call (ok__law_take g) (hr.mono (by decide)) (by rfl) g.g__law_take g.F__law_take.kp (b__law_take g) (pad_cons (pd_var (pv 0)) (pad_cons pd_int pad_nil)))).toSh) pmd_nil)) rfl rfl nd rfl rfl (by decide) rfl rfl (by rfl)) (sds_cons (sd_par (i := 4) (j := 5) (pmd_cons (m := .rep) (pd_call (ok__law_rankings g) (hr.mono (by decide)) (by rfl) g.g__law_rankings g.F__law_rankings.kp (b__law_rankings g) (pad_cons (pd_var (pv 0)) (pad_cons (pd_var (pv 2)) (pad_cons (pd_var (pv 3)) (pad_cons pd_bl pad_nil))))) (pmd_cons (m := .rep) (pd_call (ok__law_rankings g) (hr.mono (by decide)) (by rfl) g.g__law_rankings g.F__law_rankings.kp (b__law_rankings g) (pad_cons (pd_var (pv 0)) (pad_cons (pd_var (pv 3)) (pad_cons (pd_var (pv 2)) (pad_cons pd_bl pad_nil))))) pmd_nil)) rfl rfl nd rfl rfl (by decide) rfl rfl (by rfl)) (sds_cons (sd_par (i := 6) (j := 7) (pmd_cons (m := .rep) (pd_callTy call_tuple_ofF cd_tup (by rfl) g.b_tuple boot_tuple (phd_cons ((pd_lc 64 rfl nd (pid_range1 (by rfl) g.b_range (pad_cons (pd_var (pv 2)) pad_nil)) (blkOk_by (own := [("left", 12)]) (by kernel_rfl)) (fun _ _ _ _ _ => (pgd_name (i := 12) nd rfl (by first | exact .inl rfl | exact .inr rfl))) (fun _ _ _ _ _ => ptsd_nil) (fun _ _ _ _ _ => (pd_call (ok__law_take g) (hr.mono (by decide)) (by rfl) g.g__law_take g.F__law_take.kp (b__law_take g) (pad_cons (pd_var (pv 0)) (pad_cons pd_int pad_nil)))))).toSh phd_nil)) (pmd_cons (m := .rep) (pd_callTy call_tuple_ofF cd_tup (by rfl) g.b_tuple boot_tuple (phd_cons ((pd_lc 64 rfl nd (pid_range1 (by rfl) g.b_range (pad_cons (pd_var (pv 3)) pad_nil)) (blkOk_by (own := [("right", 9)]) (by kernel_rfl)) (fun _ _ _ _ _ => (pgd_name (i := 9) nd rfl (by first | exact .inl rfl | exact .inr rfl))) (fun _ _ _ _ _ => ptsd_nil) (fun _ _ _ _ _ => (pd_tup (pad_cons (pd_call (ok__law_take g) (hr.mono (by decide)) (by rfl) g.g__law_take g.F__law_take.kp (b__law_take g) (pad_cons (pd_var (pv 0)) (pad_cons pd_int pad_nil))) (pad_cons (pd_op op_addA od_add (pd_int).toSh ((pd_call (ok__law_take g) (hr.mono (by decide)) (by rfl) g.g__law_take g.F__law_take.kp (b__law_take g) (pad_cons (pd_var (pv 0)) (pad_cons pd_int pad_nil)))).toSh) (pad_cons pd_int (pad_cons pd_int pad_nil)))))))).toSh phd_nil)) pmd_nil)) rfl rfl nd rfl rfl (by decide) rfl rfl (by rfl)) (sds_cons (sd_asg (i := 8) (pd_make g.M_Places (okI_Places g) (hr.mono (by decide)) (by rfl) g.g_Places (bI_Places g) (pad_cons (pd_var (pv 4)) (pad_cons (pd_var (pv 5)) (pad_cons (pd_callTy call_tuple_ofF cd_tup (by rfl) g.b_tuple boot_tuple (phd_cons ((pd_lc 64 rfl nd (pid_range1 (by rfl) g.b_range (pad_cons (pd_var (pv 3)) pad_nil)) (blkOk_by (own := [("right", 9)]) (by kernel_rfl)) (fun _ _ _ _ _ => (pgd_name (i := 9) nd rfl (by first | exact .inl rfl | exact .inr rfl))) (fun _ _ _ _ _ => ptsd_nil) (fun _ _ _ _ _ => (pd_call (ok__law_take g) (hr.mono (by decide)) (by rfl) g.g__law_take g.F__law_take.kp (b__law_take g) (pad_cons (pd_var (pv 0)) (pad_cons pd_int pad_nil)))))).toSh phd_nil)) (pad_cons (pd_var (pv 6)) (pad_cons (pd_var (pv 7)) pad_nil)))))) nd rfl (.inl rfl)) (sds_cons (sd_par (i := 9) (j := 10) (pmd_cons (m := .rep) (pd_call (ok__law_take g) (hr.mono (by decide)) (by rfl) g.g__law_take g.F__law_take.kp (b__law_take g) (pad_cons (pd_var (pv 0)) (pad_cons (pd_var (pv 3)) pad_nil))) (pmd_cons (m := .rep) (pd_call (ok__law_row g) (hr.mono (by decide)) (by rfl) g.g__law_row g.F__law_row.kp (b__law_row g) (pad_cons (pd_call (ok_best_seats g) (hr.mono (by decide)) (by rfl) g.g_best_seats g.F_best_seats.kp (b_best_seats g) (pad_cons (pd_var (pv 8)) pad_nil)) (pad_cons (pd_var (pv 2)) pad_nil))) pmd_nil)) rfl rfl nd rfl rfl (by decide) rfl rfl (by rfl)) (sds_cons (sd_asg (i := 11) (pd_call (ok__law_row g) (hr.mono (by decide)) (by rfl) g.g__law_row g.F__law_row.kp (b__law_row g) (pad_cons (pd_call (ok_best_seats g) (hr.mono (by decide)) (by rfl) g.g_best_seats g.F_best_seats.kp (b_best_seats g) (pad_cons (pd_if (ptd_val (pd_var (pv 1))) (pd_callK0 (ok_with_seat g) (hr.mono (by decide)) (by rfl) g.g_with_seat g.F_with_seat.kp (kb_with_seat_1_0 g) (pkd_cons (pd_var (pv 9)) (pkd_cons (pd_var (pv 8)) pkd_nil))) (pd_call (ok_with_seat g) (hr.mono (by decide)) (by rfl) g.g_with_seat g.F_with_seat.kp (b_with_seat g) (pad_cons (pd_var (pv 8)) (pad_cons (pd_var (pv 9)) pad_nil)))) pad_nil)) (pad_cons (pd_var (pv 2)) pad_nil))) nd rfl (.inl rfl)) (sds_cons (sd_for 64 PassesOwn.never rfl (pid_range1 (by rfl) g.b_range (pad_cons (pd_var (pv 2)) pad_nil)) (pgd_name (i := 12) nd rfl (.inl rfl)) (sds_cons (sd_if ((pwd_and (ptd_cmp op_isnA od_isn ((pd_ix (ix_all (ru1 hr)) od_ix ((pd_var (pv 10))).toSh ((pd_var (pv 12))).toSh (fun _ _ => rfl))).toSh (pd_non).toSh (nomark _)) (pwd_and1 ((pwd_or (ptd_cmp op_isA od_is ((pd_ix (ix_all (ru1 hr)) od_ix ((pd_var (pv 11))).toSh ((pd_var (pv 12))).toSh (fun _ _ => rfl))).toSh (pd_non).toSh (nomark _)) (pwd_or1 (ptd_cmp op_gt od_C ((pd_tindex (pd_ix (ix_all (ru1 hr)) od_ix ((pd_var (pv 4))).toSh ((pd_var (pv 12))).toSh (fun _ _ => rfl)) (pd_ix (ix_all (ru1 hr)) od_ix ((pd_var (pv 11))).toSh ((pd_var (pv 12))).toSh (fun _ _ => rfl)))).toSh ((pd_tindex (pd_ix (ix_all (ru1 hr)) od_ix ((pd_var (pv 4))).toSh ((pd_var (pv 12))).toSh (fun _ _ => rfl)) (pd_ix (ix_all (ru1 hr)) od_ix ((pd_var (pv 10))).toSh ((pd_var (pv 12))).toSh (fun _ _ => rfl)))).toSh (nomark _))))).pt))).pt (sds_cons (sd_ret pd_bl) sds_nil) sds_nil) sds_nil)) (sds_cons (sd_for 64 PassesOwn.never rfl (pid_range1 (by rfl) g.b_range (pad_cons pd_int pad_nil)) (pgd_name (i := 13) nd rfl (.inl rfl)) (sds_cons (sd_par (i := 12) (j := 14) (pmd_cons (m := .rep) (pd_call (ok__law_take g) (hr.mono (by decide)) (by rfl) g.g__law_take g.F__law_take.kp (b__law_take g) (pad_cons (pd_var (pv 0)) (pad_cons (pd_var (pv 2)) pad_nil))) (pmd_cons (m := .rep) (pd_ix (ix_all (ru1 hr)) od_ix ((pd_call (ok__law_rankings g) (hr.mono (by decide)) (by rfl) g.g__law_rankings g.F__law_rankings.kp (b__law_rankings g) (pad_cons (pd_var (pv 0)) (pad_cons pd_int (pad_cons (pd_var (pv 3)) (pad_cons pd_bl pad_nil)))))).toSh (pd_int).toSh (fun _ _ => rfl)) pmd_nil)) rfl rfl nd rfl rfl (by decide) rfl rfl (by rfl)) (sds_cons (sd_asg (i := 15) (pd_if (ptd_val (pd_var (pv 1))) (pd_callK0 (ok_by_lie g) (hr.mono (by decide)) (by rfl) g.g_by_lie g.F_by_lie.kp (kb_by_lie_2_1_0 g) (pkd_cons (pd_var (pv 14)) (pkd_cons (pd_var (pv 12)) (pkd_cons (pd_var (pv 8)) pkd_nil)))) (pd_call (ok_by_lie g) (hr.mono (by decide)) (by rfl) g.g_by_lie g.F_by_lie.kp (b_by_lie g) (pad_cons (pd_var (pv 8)) (pad_cons (pd_var (pv 12)) (pad_cons (pd_var (pv 14)) pad_nil))))) nd rfl (.inl rfl)) (sds_cons (sd_if ((pwd_or (ptd_not (ptd_val (pd_callB call_isi cd_isi (by rfl) g.b_isinstance boot_isinstance (phd_cons ((pd_var (pv 15))).toSh (phd_cons ((pd_ty (pe_bltn (by rfl) g.b_tuple boot_tuple rfl))).toSh phd_nil))))) (pwd_or (ptd_not (ptd_val (pd_call (ok__law_same g) (hr.mono (by decide)) (by rfl) g.g__law_same g.F__law_same.kp (b__law_same g) (pad_cons (pd_slice ((pd_var (pv 15))).toSh pod_none (pod_some pd_int)) (pad_cons (pd_slice ((pd_var (pv 10))).toSh (pod_some (pd_var (pv 12))) (pod_some (pd_op op_addA od_add ((pd_var (pv 12))).toSh (pd_int).toSh))) pad_nil))))) (pwd_or1 (ptd_val (pd_call (ok__law_prefers g) (hr.mono (by decide)) (by rfl) g.g__law_prefers g.F__law_prefers.kp (b__law_prefers g) (pad_cons (pd_ix (ix_all (ru1 hr)) od_ix ((pd_var (pv 4))).toSh ((pd_var (pv 12))).toSh (fun _ _ => rfl)) (pad_cons (pd_ix (ix_all (ru1 hr)) od_ix ((pd_var (pv 15))).toSh (pd_int).toSh (fun _ _ => rfl)) (pad_cons (pd_ix (ix_all (ru1 hr)) od_ix ((pd_var (pv 15))).toSh (pd_int).toSh (fun _ _ => rfl)) pad_nil))))))))).pt (sds_cons (sd_ret pd_bl) sds_nil) sds_nil) (sds_cons (sd_asg (i := 16) (pd_make g.M_Places (okI_Places g) (hr.mono (by decide)) (by rfl) g.g_Places (bI_Places g) (pad_cons (pd_op op_addA od_add ((pd_op op_addA od_add ((pd_slice ((pd_var (pv 4))).toSh pod_none (pod_some (pd_var (pv 12))))).toSh ((pd_tup (pad_cons (pd_var (pv 14)) pad_nil))).toSh)).toSh ((pd_slice ((pd_var (pv 4))).toSh (pod_some (pd_op op_addA od_add ((pd_var (pv 12))).toSh (pd_int).toSh)) pod_none)).toSh) (pad_cons (pd_var (pv 5)) (pad_cons (pd_fld g.cl_Places g.na_Places_seats (pd_var (pv 8))) (pad_cons (pd_var (pv 6)) (pad_cons (pd_var (pv 7)) pad_nil)))))) nd rfl (.inl rfl)) (sds_cons (sd_if (ptd_not (ptd_val (pd_call (ok__law_same g) (hr.mono (by decide)) (by rfl) g.g__law_same g.F__law_same.kp (b__law_same g) (pad_cons (pd_var (pv 15)) (pad_cons (pd_tup (pad_cons (pd_ix (ix_all (ru1 hr)) od_ix ((pd_var (pv 10))).toSh ((pd_var (pv 12))).toSh (fun _ _ => rfl)) (pad_cons (pd_ix (ix_all (ru1 hr)) od_ix ((pd_call (ok_best_seats g) (hr.mono (by decide)) (by rfl) g.g_best_seats g.F_best_seats.kp (b_best_seats g) (pad_cons (pd_var (pv 16)) pad_nil))).toSh ((pd_var (pv 12))).toSh (fun _ _ => rfl)) pad_nil))) pad_nil))))) (sds_cons (sd_ret pd_bl) sds_nil) sds_nil) sds_nil)))))) (sds_cons (sd_ret pd_bl) sds_nil))))))))) (by decide), fun ds Q h => ?_⟩
  obtain ⟨named, rfl, hQ⟩ := h
  simp
  refine take_in 4 rfl (by decide) (by decide) fun n0 hn0 => add_in (j := 2) rfl (take_in 3 rfl (by decide) (by decide) fun m0 hm0 => add_in (j := 1) rfl ?_)
  obtain ⟨n, en, hn⟩ : ∃ n, n = 2 + n0 ∧ 2 ≤ n ∧ n ≤ 5 := ⟨_, rfl, by omega, by omega⟩
  obtain ⟨m, em, hm⟩ : ∃ m, m = 1 + m0 ∧ 1 ≤ m ∧ m ≤ 3 := ⟨_, rfl, by omega, by omega⟩
  rw [← en, ← em]
  refine ⟨n, m, false, rfl, by omega, by omega, by omega, fun A hA => ⟨m, n, false, rfl, by omega, by omega, by omega, fun B hB => ?_⟩⟩
  have hAl := hA.1
  have hBl := hB.1
  have sd := drawn_sides hA hB (by omega) (by omega)
  refine lc_any (n := n) nD (fun x => x < 2) (fun P h => ⟨_, rfl, h⟩) (by omega) (by omega) (fun a ha R R0 hR => by simp; exact take_in 2 rfl (by decide) (by decide) hR) (fun gs hg1 hg2 => tup_in ?_)
  refine lc_any (n := m) rk (fun x => ∃ a b, a < 3 ∧ b < 3 ∧ x = [a, 1 + b, 0, 0]) (fun P h => ⟨_, rfl, h⟩) (by omega) (by omega) (fun a ha R R0 hR => ?_) (fun ls hl1 hl2 => tup_in ?_)
  · simp
    exact take_in 3 rfl (by decide) (by decide) fun a ha => take_in 3 rfl (by decide) (by decide) fun b hb => add_in (j := 1) rfl (hR _ ⟨a, b, ha, hb, rfl⟩)
  refine lc_any (n := m) nD (fun x => x < 3) (fun P h => ⟨_, rfl, h⟩) (by omega) (by omega) (fun a ha R R0 hR => by simp; exact take_in 3 rfl (by decide) (by decide) hR) (fun ss hs1 hs2 => tup_in ?_)
  obtain ⟨V, hV⟩ : ∃ V : PL, V = ⟨A, B, ss, gs, ls⟩ := ⟨_, rfl⟩
  have ok : V.Ok := by
    rw [hV]
    refine ⟨sd, ⟨by simp only; omega, fun x hx => by have := hs2 x hx; omega⟩, ⟨by simp only; omega, fun x hx => by have := hg2 x hx; omega⟩, ⟨by simp only; omega, fun x hx => ?_⟩⟩
    obtain ⟨a, b, ha, hb, rfl⟩ := hl2 x hx
    exact ⟨rfl, fun y hy => by simp at hy; omega⟩
  have hVl : V.lefts.length = n := by rw [hV]; exact hAl
  have hVr : V.rights.length = m := by rw [hV]; exact hBl
  refine ⟨V, by rw [hV]; rfl, ok, ⟨m, rfl, by omega, by omega, fun r hr => ⟨V, rfl, ok, fun o io no bo => ?_⟩⟩⟩
  have ho : o.length = n := by rw [io.len, hVl]
  refine ⟨o, by rw [ho], by omega, ?_⟩
  have hsr : at0 V.seats r < 20 := by
    have h1 : r < V.seats.length := by rw [ok.se.1]; omega
    have := hs2 (at0 V.seats r) (by rw [hV] at h1 ⊢; exact at0_mem h1)
    omega
  refine ⟨V, r, rfl, ok, by omega, hsr, ⟨moreSeat V r, rfl, moreSeat_ok ok (by omega) hsr, fun o' io' no' bo' => ?_⟩⟩
  have ho' : o'.length = n := by rw [io'.len]; exact hVl
  refine ⟨o', by rw [ho'], by omega, ?_⟩
  refine for_r1 (n := n) (fun P h => ⟨_, rfl, h⟩) (by omega) (by omega) (fun i ε => ∃ (bb : Bool) (x12 : Sl), ε = [.val .cell, .val (.bl bb), .val (nD n), .val (nD m), .val (rks A), .val (rks B), .val (rk gs), .val (rks ls), .val (pPl g.C_Places V), .val (nD r), .val (outD o), .val (outD o'), x12, .off, .off, .off, .off])
    ⟨_, _, rfl⟩ (fun i ε hi ⟨bb, x12, hε⟩ => ?_) (fun ε ⟨bb, x12, hε⟩ => ?_)
  · subst hε
    simp
    have q1 : ∀ R, fIx (outD o) (Dat.int (i : Int)) R = R (oD (oat o i)) := fun R => fIx_out (by omega)
    have q2 : ∀ R, fIx (outD o') (Dat.int (i : Int)) R = R (oD (oat o' i)) := fun R => fIx_out (by omega)
    have q3 : ∀ R, fIx (rks A) (Dat.int (i : Int)) R = R (rk (row A i)) := fun R => fIx_rks (by omega)
    rw [q1]
    cases e : oat o i with
    | none => exact .inl rfl
    | some u =>
      obtain ⟨t, ht, hle⟩ := more_law ok io no bo' i u e
      have hu : u ∈ row V.lefts i := (fitB_iff.mp (io.fit i u e (by omega)).2).1
      have htt : t ∈ row V.lefts i := (fitB_iff.mp (io'.fit i t ht (by show i < V.lefts.length; omega)).2).1
      have hA2 : V.lefts = A := by rw [hV]
      rw [hA2] at hu htt hle
      obtain ⟨g1, g2⟩ := dTIx_at htt
      obtain ⟨g3, g4⟩ := dTIx_at hu
      refine .inr ⟨rfl, ?_⟩
      rw [q2, ht, q3]
      refine .inl ⟨rfl, _, rfl, ?_⟩
      rw [q2, ht]
      refine ⟨rfl, by simp, ixo (row A i) t, nD t, g1, by simp [oD], g2, ?_⟩
      rw [q3]
      refine ⟨_, rfl, ?_⟩
      rw [q1, e]
      exact ⟨rfl, by simp, ixo (row A i) u, nD u, g3, by simp [oD], g4, .inl hle⟩
  · subst hε
    simp only [u_sSeq, u_sNext]
    refine for_r1 (n := 4) (fun P h => h) (by omega) (by omega) (fun i ε => ∃ (x12 x13 x14 x15 x16 : Sl), ε = [.val .cell, .val (.bl bb), .val (nD n), .val (nD m), .val (rks A), .val (rks B), .val (rk gs), .val (rks ls), .val (pPl g.C_Places V), .val (nD r), .val (outD o), .val (outD o'), x12, x13, x14, x15, x16])
      ⟨_, _, _, _, _, rfl⟩ (fun i ε hi ⟨x12, x13, x14, x15, x16, hε⟩ => ?_) (fun ε ⟨x12, x13, x14, x15, x16, hε⟩ => ?_)
    · subst hε
      simp
      refine ⟨n, rfl, by omega, by omega, fun l hl => ⟨1, m, false, rfl, by omega, by omega, by omega, fun rs hrs => ?_⟩⟩
      have hrl : 0 < rs.length := by have := hrs.1; omega
      show fIx (rks rs) (nD 0) _
      rw [fIx_rks hrl]
      have hk : RkOk V.rights.length (row rs 0) := by rw [hVr]; exact hrs.2.1 _ (row_mem hrl)
      generalize row rs 0 = k at hk
      refine ⟨V, l, k, rfl, ok, by omega, hk, fun o1 o2 io1 no1 bo1 io2 no2 bo2 => ?_⟩
      have e1 : o1 = o := best_uniq ok io1 no1 bo1 io no bo
      subst e1
      have ho2 : o2.length = n := by rw [io2.len]; simp [lieV]; exact hVl
      have hA2 : V.lefts = A := by rw [hV]
      refine ⟨"tuple", rfl, .inr ⟨by decide, ?_⟩⟩
      have hol : o1.length = n := ho
      have hAl2 : l < A.length := by omega
      have q1 : ∀ R, fIx (outD o1) (nD l) R = R (oD (oat o1 l)) := fun R => fIx_out (by omega)
      have q3 : ∀ R, fIx (rks A) (nD l) R = R (rk (row A l)) := fun R => fIx_rks (by omega)
      have hmem : ∀ b, oat o1 l = some b → b ∈ row A l := fun b hb => by
        rw [← hA2]
        exact (fitB_iff.mp (io.fit l b hb (by omega)).2).1
      have pf : ∀ R : Dat → Prop, R (.bl false) → S__law_prefers [rk (row A l), oD (oat o2 l), oD (oat o1 l)] R := fun R hR => by
        cases e : oat o2 l with
        | none => exact .inr ⟨row A l, oat o1 l, rfl, hR⟩
        | some a =>
          refine .inl ⟨row A l, a, oat o1 l, rfl, fun _ => hmem, ?_⟩
          have : (decide (a ∈ row A l) && abB (row A l) a (oat o1 l)) = false := by
            by_cases ha : a ∈ row A l
            · have h := no_gain (l := l) ok (by omega) hk bo io2 no2 e (by rw [hA2]; exact ha)
              rw [hA2] at h
              simp [h]
            · simp [ha]
          rw [this]
          exact hR
      have gd : ∀ x : Option Nat, goodD 3 (oD x) := fun x => by
        cases x with
        | none => exact .inl (.inl rfl)
        | some b => exact .inl (.inr (.inr ⟨_, rfl⟩))
      rw [o_SlT, cut21]
      refine ⟨(l : Int), rfl, add_n1 ⟨((l + 1 : Nat) : Int), rfl, ?_⟩⟩
      show fSl (.tup (o1.map oD)) _ _ _
      rw [o_SlT, cutM _ _ (get_oat (by omega))]
      refine .inl ⟨_, rfl, .inr ⟨_, .inl rfl, by simp, fun x hx => ?_⟩, .inr ⟨rfl, ?_⟩⟩
      · rw [List.mem_singleton.mp hx]; exact gd _
      rw [q3]
      refine ⟨_, rfl, _, rfl, pf _ (.inl ⟨rfl, (l : Int), rfl, ?_⟩)⟩
      show fSl (.tup (A.map rk)) none (some (l : Int)) _
      rw [o_SlT, cutT, o_Att]
      refine ⟨by simp; omega, add_n1 ⟨((l + 1 : Nat) : Int), rfl, ?_⟩⟩
      show fSl (.tup (A.map rk)) (some ((l + 1 : Nat) : Int)) none _
      rw [o_SlT, cutD, o_Att]
      refine ⟨by simp; omega, _, rfl, _, lkP_s, ⟨lieV V l k, ?_, lieV_ok ok hk, ?_⟩⟩
      · have e2 : (A.map rk).take l ++ [rk k] ++ (A.map rk).drop (l + 1) = (A.set l k).map rk := by
          rw [List.append_assoc]
          exact rks_set (by omega)
        rw [e2, hV]
        rfl
      show fIx (outD o1) (nD l) _
      rw [q1]
      refine ⟨lieV V l k, rfl, lieV_ok ok hk, fun o3 io3 no3 bo3 => ?_⟩
      have e3 : o3 = o2 := best_uniq (lieV_ok ok hk) io3 no3 bo3 io2 no2 bo2
      subst e3
      have q5 : ∀ R, fIx (outD o3) (nD l) R = R (oD (oat o3 l)) := fun R => fIx_out (by omega)
      show fIx (outD o3) (nD l) _
      rw [q5]
      refine .inl ⟨_, rfl, .inr ⟨_, .inl rfl, by simp, fun x hx => ?_⟩, .inr rfl⟩
      rcases (by simpa using hx : x = oD (oat o1 l) ∨ x = oD (oat o3 l)) with q | q
      · rw [q]; exact gd _
      · rw [q]; exact gd _
    · subst hε
      simp
      exact hQ
end
end K90
set_option maxRecDepth 100000
set_option maxHeartbeats 4000000
namespace K90
open PySem PySem.Spec PyProof.Rows L2 RZ DL
open C8 (call_isC pe_gc InsC)
open M90
def S__law_seats_right : List Dat → (Dat → Prop) → Prop := fun ds P => ∃ b : Bool, ds = [.cell, .bl b] ∧ P (.bl true)
theorem len__law_seats_right (ds : List Dat) (Q : Dat → Prop) (h : S__law_seats_right ds Q) : ds.length = P__law_seats_right.length := by
  obtain ⟨n, rfl, _⟩ := h; rfl
theorem rep_rk {m : Nat} : (List.replicate m [20, 20, 20, 20]).map rk = List.replicate m (.tup [.int 20, .int 20, .int 20, .int 20]) := by rw [List.map_replicate]; rfl
section
variable {P : Program} {w : World} {K : PySem.W.Frag} {mg : Str → Option Value} {base : Heap}
theorem ok__law_seats_right (g : Fx K mg) : FnOk P w K mg base L2.CX0 8 g.f__law_seats_right g.fd__law_seats_right P__law_seats_right (spF 1000000 S__law_seats_right) := by
  refine okD g.F__law_seats_right sc__law_seats_right len__law_seats_right (fun cdv A outer s H E hr => ?_)
  have nd := (sc__law_seats_right).nd
  refine ⟨_, SDs.cost (sds_cons (sd_par (i := 2) (j := 3) (pmd_cons (m := .rep) (pd_op op_addA od_add (pd_int).toSh ((pd_call (ok__law_take g) (hr.mono (by decide)) (by rfl) g.g__law_take g.F__law_take.kp (b__law_take g) (pad_cons (pd_var (pv 0)) (pad_cons pd_int pad_nil)))).toSh) (pmd_cons (m := .rep) (pd_op op_addA od_add (pd_int).toSh ((pd_call (ok__law_take g) (hr.mono (by decide)) (by rfl) g.g__law_take g.F__law_take.kp (b__law_take g) (pad_cons (pd_var (pv 0)) (pad_cons pd_int pad_nil)))).toSh) pmd_nil)) rfl rfl nd rfl rfl (by decide) rfl rfl (by rfl)) (sds_cons (sd_mul (xN := 0) (is := [4, 5]) (pmd_cons (m := .rep) (pd_call (ok__law_rankings g) (hr.mono (by decide)) (by rfl) g.g__law_rankings g.F__law_rankings.kp (b__law_rankings g) (pad_cons (pd_var (pv 0)) (pad_cons (pd_var (pv 2)) (pad_cons (pd_var (pv 3)) (pad_cons (pd_cmp (op_eqD (ru0 hr)) od_eq ((pd_call (ok__law_take g) (hr.mono (by decide)) (by rfl) g.g__law_take g.F__law_take.kp (b__law_take g) (pad_cons (pd_var (pv 0)) (pad_cons pd_int pad_nil)))).toSh (pd_int).toSh (nomark _)) pad_nil))))) (pmd_cons (m := .rep) (pd_call (ok__law_rankings g) (hr.mono (by decide)) (by rfl) g.g__law_rankings g.F__law_rankings.kp (b__law_rankings g) (pad_cons (pd_var (pv 0)) (pad_cons (pd_var (pv 3)) (pad_cons (pd_var (pv 2)) (pad_cons (pd_cmp (op_eqD (ru0 hr)) od_eq ((pd_call (ok__law_take g) (hr.mono (by decide)) (by rfl) g.g__law_take g.F__law_take.kp (b__law_take g) (pad_cons (pd_var (pv 0)) (pad_cons pd_int pad_nil)))).toSh (pd_int).toSh (nomark _)) pad_nil))))) pmd_nil)) rfl rfl rfl (pgs_cons (pg_name (i := 4) nd rfl (.inl rfl)) (pgs_cons (pg_name (i := 5) nd rfl (.inr rfl)) pgs_nil))) (sds_cons (sd_asg (i := 6) (pd_callTy call_tuple_ofF cd_tup (by rfl) g.b_tuple boot_tuple (phd_cons ((pd_lc 64 rfl nd (pid_range1 (by rfl) g.b_range (pad_cons (pd_var (pv 3)) pad_nil)) (blkOk_by (own := [("right", 24)]) (by kernel_rfl)) (fun _ _ _ _ _ => (pgd_name (i := 24) nd rfl (by first | exact .inl rfl | exact .inr rfl))) (fun _ _ _ _ _ => ptsd_nil) (fun _ _ _ _ _ => (pd_op op_addA od_add (pd_int).toSh ((pd_call (ok__law_take g) (hr.mono (by decide)) (by rfl) g.g__law_take g.F__law_take.kp (b__law_take g) (pad_cons (pd_var (pv 0)) (pad_cons pd_int pad_nil)))).toSh)))).toSh phd_nil)) nd rfl (.inr rfl)) (sds_cons (sd_par (i := 7) (j := 8) (pmd_cons (m := .rep) (pd_callTy call_tuple_ofF cd_tup (by rfl) g.b_tuple boot_tuple (phd_cons ((pd_lc 64 rfl nd (pid_range1 (by rfl) g.b_range (pad_cons (pd_var (pv 2)) pad_nil)) (blkOk_by (own := [("left", 21)]) (by kernel_rfl)) (fun _ _ _ _ _ => (pgd_name (i := 21) nd rfl (by first | exact .inl rfl | exact .inr rfl))) (fun _ _ _ _ _ => ptsd_nil) (fun _ _ _ _ _ => (pd_call (ok__law_take g) (hr.mono (by decide)) (by rfl) g.g__law_take g.F__law_take.kp (b__law_take g) (pad_cons (pd_var (pv 0)) (pad_cons pd_int pad_nil)))))).toSh phd_nil)) (pmd_cons (m := .rep) (pd_callTy call_tuple_ofF cd_tup (by rfl) g.b_tuple boot_tuple (phd_cons ((pd_op op_mulA od_mul ((pd_lst (pad_cons (pd_tup (pad_cons pd_int (pad_cons pd_int (pad_cons pd_int (pad_cons pd_int pad_nil))))) pad_nil))).toSh ((pd_var (pv 3))).toSh)).toSh phd_nil)) pmd_nil)) rfl rfl nd rfl rfl (by decide) rfl rfl (by rfl)) (sds_cons (sd_asg (i := 9) (pd_if (ptd_val (pd_var (pv 1))) (pd_makeK0 g.M_Places (okI_Places g) (hr.mono (by decide)) (by rfl) g.g_Places (kbI_Places_4_3_2_1_0 g) (pkd_cons (pd_var (pv 8)) (pkd_cons (pd_var (pv 7)) (pkd_cons (pd_var (pv 6)) (pkd_cons (pd_var (pv 5)) (pkd_cons (pd_var (pv 4)) pkd_nil)))))) (pd_make g.M_Places (okI_Places g) (hr.mono (by decide)) (by rfl) g.g_Places (bI_Places g) (pad_cons (pd_var (pv 4)) (pad_cons (pd_var (pv 5)) (pad_cons (pd_var (pv 6)) (pad_cons (pd_var (pv 7)) (pad_cons (pd_var (pv 8)) pad_nil))))))) nd rfl (.inl rfl)) (sds_cons (sd_asgG (pd_call (ok__law_split g) (hr.mono (by decide)) (by rfl) g.g__law_split g.F__law_split.kp (b__law_split g) (pad_cons (pd_var (pv 4)) (pad_cons (pd_var (pv 5)) (pad_cons (pd_var (pv 6)) pad_nil)))) (pgd_unl (n := 3) rfl (pgsd_cons (pgd_name (i := 10) nd rfl (.inl rfl)) (pgsd_cons (pgd_name (i := 11) nd rfl (.inl rfl)) (pgsd_cons (pgd_name (i := 12) nd rfl (.inr rfl)) pgsd_nil))))) (sds_cons (sd_asg (i := 13) (pd_make g.M_Sides (okI_Sides g) (hr.mono (by decide)) (by rfl) g.g_Sides (bI_Sides g) (pad_cons (pd_var (pv 10)) (pad_cons (pd_var (pv 11)) pad_nil))) nd rfl (.inl rfl)) (sds_cons (sd_asg (i := 14) ((pd_lst (pad_cons (pd_call (ok__law_row g) (hr.mono (by decide)) (by rfl) g.g__law_row g.F__law_row.kp (b__law_row g) (pad_cons (pd_if (ptd_val (pd_var (pv 1))) (pd_callK0 (ok_best_for_lefts g) (hr.mono (by decide)) (by rfl) g.g_best_for_lefts g.F_best_for_lefts.kp (kb_best_for_lefts_0 g) (pkd_cons (pd_var (pv 13)) pkd_nil)) (pd_call (ok_best_for_lefts g) (hr.mono (by decide)) (by rfl) g.g_best_for_lefts g.F_best_for_lefts.kp (b_best_for_lefts g) (pad_cons (pd_var (pv 13)) pad_nil))) (pad_cons (pd_var (pv 2)) pad_nil))) (pad_cons (pd_call (ok__law_row g) (hr.mono (by decide)) (by rfl) g.g__law_row g.F__law_row.kp (b__law_row g) (pad_cons (pd_call (ok_best_for_rights g) (hr.mono (by decide)) (by rfl) g.g_best_for_rights g.F_best_for_rights.kp (b_best_for_rights g) (pad_cons (pd_var (pv 13)) pad_nil)) (pad_cons (pd_var (pv 2)) pad_nil))) pad_nil)))).frz nd rfl (.inr rfl)) (sds_cons (sd_asg (i := 15) ((pd_lst (pad_cons (pd_if (ptd_val (pd_var (pv 1))) (pd_callK0 (ok_best_seats g) (hr.mono (by decide)) (by rfl) g.g_best_seats g.F_best_seats.kp (kb_best_seats_0 g) (pkd_cons (pd_var (pv 9)) pkd_nil)) (pd_call (ok_best_seats g) (hr.mono (by decide)) (by rfl) g.g_best_seats g.F_best_seats.kp (b_best_seats g) (pad_cons (pd_var (pv 9)) pad_nil))) (pad_cons (pd_call (ok_worst_seats g) (hr.mono (by decide)) (by rfl) g.g_worst_seats g.F_worst_seats.kp (b_worst_seats g) (pad_cons (pd_var (pv 9)) pad_nil)) pad_nil)))).frz nd rfl (.inl rfl)) (sds_cons (sd_for 64 PassesOwn.never rfl (pid_zip (by rfl) g.b_zip (pad_cons (pd_var (pv 14)) (pad_cons (pd_var (pv 15)) pad_nil))) (pgd_tup (n := 2) rfl (pgsd_cons (pgd_name (i := 16) nd rfl (.inl rfl)) (pgsd_cons (pgd_name (i := 17) nd rfl (.inl rfl)) pgsd_nil))) (sds_cons (sd_if ((pwd_or (ptd_not (ptd_val (pd_call (ok__law_same g) (hr.mono (by decide)) (by rfl) g.g__law_same g.F__law_same.kp (b__law_same g) (pad_cons (pd_var (pv 17)) (pad_cons (pd_callTy call_tuple_ofF cd_tup (by rfl) g.b_tuple boot_tuple (phd_cons ((pd_lc 64 rfl nd (pid_tup (pd_var (pv 16))) (blkOk_by (own := [("seat", 29)]) (by kernel_rfl)) (fun _ _ _ _ _ => (pgd_name (i := 29) nd rfl (by first | exact .inl rfl | exact .inr rfl))) (fun _ _ _ _ _ => ptsd_nil) (fun _ _ _ _ _ => (pd_if (ptd_cmp op_isA od_is ((pd_var (pv 29))).toSh (pd_non).toSh (nomark _)) pd_non (pd_ix (ix_all (ru1 hr)) od_ix ((pd_var (pv 12))).toSh ((pd_var (pv 29))).toSh (fun _ _ => rfl)))))).toSh phd_nil)) pad_nil))))) (pwd_or1 (ptd_cmp op_isnA od_isn ((pd_call (ok_is_stable_outcome g) (hr.mono (by decide)) (by rfl) g.g_is_stable_outcome g.F_is_stable_outcome.kp (b_is_stable_outcome g) (pad_cons (pd_var (pv 9)) (pad_cons (pd_var (pv 17)) pad_nil)))).toSh (pd_bl).toSh (nomark _))))).pt (sds_cons (sd_ret pd_bl) sds_nil) sds_nil) sds_nil)) (sds_cons (sd_asg (i := 18) (pd_callTy call_tuple_ofF cd_tup (by rfl) g.b_tuple boot_tuple (phd_cons ((pd_lc 64 rfl nd (pid_range1 (by rfl) g.b_range (pad_cons (pd_var (pv 2)) pad_nil)) (blkOk_by (own := [("left", 21)]) (by kernel_rfl)) (fun _ _ _ _ _ => (pgd_name (i := 21) nd rfl (by first | exact .inl rfl | exact .inr rfl))) (fun _ _ _ _ _ => (ptsd_one (ptd_cmp op_isnA od_isn ((pd_ix (ix_all (ru1 hr)) od_ix ((pd_ix (ix_all (ru1 hr)) od_ix ((pd_var (pv 14))).toSh (pd_int).toSh (fun _ _ => rfl))).toSh ((pd_var (pv 21))).toSh (fun _ _ => rfl))).toSh (pd_non).toSh (nomark _)))) (fun _ _ _ _ _ => (pd_var (pv 21))))).toSh phd_nil)) nd rfl (.inl rfl)) (sds_cons (sd_asg (i := 19) (pd_callTy call_tuple_ofF cd_tup (by rfl) g.b_tuple boot_tuple (phd_cons ((pd_lc 64 rfl nd (pid_range1 (by rfl) g.b_range (pad_cons (pd_var (pv 3)) pad_nil)) (blkOk_by (own := [("right", 24)]) (by kernel_rfl)) (fun _ _ _ _ _ => (pgd_name (i := 24) nd rfl (by first | exact .inl rfl | exact .inr rfl))) (fun _ _ _ _ _ => ptsd_nil) (fun _ _ _ _ _ => (pd_callB call_lenA cd_len (by rfl) g.b_len boot_len (phd_cons ((pd_lc 64 rfl nd (pid_tup (pd_ix (ix_all (ru1 hr)) od_ix ((pd_var (pv 14))).toSh (pd_int).toSh (fun _ _ => rfl))) (blkOk_by (own := [("seat", 29)]) (by kernel_rfl)) (fun _ _ _ _ _ => (pgd_name (i := 29) nd rfl (by first | exact .inl rfl | exact .inr rfl))) (fun _ _ _ _ _ => (ptsd_one ((pwd_and (ptd_cmp op_isnA od_isn ((pd_var (pv 29))).toSh (pd_non).toSh (nomark _)) (pwd_and1 (ptd_cmp (op_eqD (ru0 hr)) od_eq ((pd_ix (ix_all (ru1 hr)) od_ix ((pd_var (pv 12))).toSh ((pd_var (pv 29))).toSh (fun _ _ => rfl))).toSh ((pd_var (pv 24))).toSh (nomark _))))).pt)) (fun _ _ _ _ _ => (pd_var (pv 29))))).toSh phd_nil))))).toSh phd_nil)) nd rfl (.inl rfl)) (sds_cons (sd_if (ptd_not (ptd_val (pd_call (ok__law_same g) (hr.mono (by decide)) (by rfl) g.g__law_same g.F__law_same.kp (b__law_same g) (pad_cons ((pd_lst (pad_cons (pd_call (ok_seated g) (hr.mono (by decide)) (by rfl) g.g_seated g.F_seated.kp (b_seated g) (pad_cons (pd_var (pv 9)) pad_nil)) (pad_cons (pd_ix (ix_all (ru1 hr)) od_ix ((pd_call (ok_always_paired g) (hr.mono (by decide)) (by rfl) g.g_always_paired g.F_always_paired.kp (b_always_paired g) (pad_cons (pd_var (pv 13)) pad_nil))).toSh (pd_int).toSh (fun _ _ => rfl)) pad_nil)))).frz (pad_cons ((pd_lst (pad_cons (pd_tup (pad_cons (pd_var (pv 18)) (pad_cons (pd_var (pv 19)) pad_nil))) (pad_cons (pd_var (pv 18)) pad_nil)))).frz pad_nil))))) (sds_cons (sd_ret pd_bl) sds_nil) sds_nil) (sds_cons (sd_asgO (i := 20) (pd_op op_rep od_repL ((pd_lst (pad_cons pd_non pad_nil))).toSh ((pd_var (pv 2))).toSh) nd rfl (.inr rfl)) (sds_cons (sd_for 64 PassesOwn.never rfl (pid_range1 (by rfl) g.b_range (pad_cons (pd_var (pv 2)) pad_nil)) (pgd_name (i := 21) nd rfl (.inr rfl)) (sds_cons (sd_setLc (i := 22) 64 rfl nd rfl rfl (by rfl) (pid_tup (pd_ix (ix_all (ru1 hr)) od_ix ((pd_var (pv 4))).toSh ((pd_var (pv 21))).toSh (fun _ _ => rfl))) (blkOk_by (own := [("right", 24)]) (by kernel_rfl)) (fun _ _ _ _ _ => (pgd_name (i := 24) nd rfl (by first | exact .inl rfl | exact .inr rfl))) (fun _ _ _ _ _ => (ptsd_one ((pwd_and (ptd_cmp (op_inA (ru hr)) od_in ((pd_var (pv 21))).toSh ((pd_ix (ix_all (ru1 hr)) od_ix ((pd_var (pv 5))).toSh ((pd_var (pv 24))).toSh (fun _ _ => rfl))).toSh (by with_unfolding_all rfl)) (pwd_and1 (ptd_cmp op_lt od_C ((pd_borA 20 (pd_callB call_lenA cd_len (by rfl) g.b_len boot_len (phd_cons ((pd_lc 64 rfl nd (pid_list (pd_var (pv 20))) (blkOk_by (own := [("one", 30)]) (by kernel_rfl)) (fun _ _ _ _ _ => (pgd_name (i := 30) nd rfl (by first | exact .inl rfl | exact .inr rfl))) (fun _ _ _ _ _ => (ptsd_one (ptd_cmp (op_eqD (ru0 hr)) od_eq ((pd_var (pv 30))).toSh ((pd_var (pv 24))).toSh (nomark _)))) (fun _ _ _ _ _ => (pd_var (pv 30))))).toSh phd_nil)))).toSh ((pd_ix (ix_all (ru1 hr)) od_ix ((pd_var (pv 6))).toSh ((pd_var (pv 24))).toSh (fun _ _ => rfl))).toSh (nomark _))))).pt)) (fun _ _ _ _ _ => (pd_var (pv 24)))) (sds_cons (((sd_setL (pv 20) (pd_var (pv 21)) (pd_if ((pwd_and (ptd_cmp (op_neD (ru0 hr)) od_ne ((pd_var (pv 22))).toSh ((pd_lst pad_nil)).toSh (nomark _)) (pwd_and1 (ptd_cmp op_gt od_C ((pd_call (ok__law_take g) (hr.mono (by decide)) (by rfl) g.g__law_take g.F__law_take.kp (b__law_take g) (pad_cons (pd_var (pv 0)) (pad_cons pd_int pad_nil)))).toSh (pd_int).toSh (nomark _))))).pt (pd_ix (ix_all (ru1 hr)) od_ix ((pd_var (pv 22))).toSh ((pd_call (ok__law_take g) (hr.mono (by decide)) (by rfl) g.g__law_take g.F__law_take.kp (b__law_take g) (pad_cons (pd_var (pv 0)) (pad_cons (pd_callB call_lenA cd_len (by rfl) g.b_len boot_len (phd_cons ((pd_var (pv 22))).toSh phd_nil)) pad_nil)))).toSh (fun _ _ => rfl)) pd_non))).frz 22) sds_nil))) (sds_cons (sd_asgO (i := 23) (pd_op op_rep od_repL ((pd_lst (pad_cons pd_non pad_nil))).toSh ((pd_var (pv 2))).toSh) nd rfl (.inl rfl)) (sds_cons (sd_for 64 PassesOwn.never rfl (pid_range1 (by rfl) g.b_range (pad_cons (pd_var (pv 3)) pad_nil)) (pgd_name (i := 24) nd rfl (.inr rfl)) (sds_cons (sd_setLc (i := 25) 64 rfl nd rfl rfl (by rfl) (pid_tup (pd_ix (ix_all (ru1 hr)) od_ix ((pd_var (pv 5))).toSh ((pd_var (pv 24))).toSh (fun _ _ => rfl))) (blkOk_by (own := [("left", 21)]) (by kernel_rfl)) (fun _ _ _ _ _ => (pgd_name (i := 21) nd rfl (by first | exact .inl rfl | exact .inr rfl))) (fun _ _ _ _ _ => (ptsd_one (ptd_cmp (op_eqD (ru0 hr)) od_eq ((pd_ix (ix_all (ru1 hr)) od_ix (pd_varS (pv 20)) ((pd_var (pv 21))).toSh (fun _ _ => rfl))).toSh ((pd_var (pv 24))).toSh (nomark _)))) (fun _ _ _ _ _ => (pd_var (pv 21)))) (sds_cons (((sd_for 64 PassesOwn.never rfl (pid_range1 (by rfl) g.b_range (pad_cons (pd_callB call_lenA cd_len (by rfl) g.b_len boot_len (phd_cons ((pd_var (pv 25))).toSh phd_nil)) pad_nil)) (pgd_name (i := 26) nd rfl (.inl rfl)) (sds_cons (sd_setL (pv 23) (pd_ix (ix_all (ru1 hr)) od_ix ((pd_var (pv 25))).toSh ((pd_var (pv 26))).toSh (fun _ _ => rfl)) (pd_ix (ix_all (ru1 hr)) od_ix ((pd_lc 64 rfl nd (pid_range1 (by rfl) g.b_range (pad_cons (pd_callB call_lenA cd_len (by rfl) g.b_len boot_len (phd_cons ((pd_var (pv 12))).toSh phd_nil)) pad_nil)) (blkOk_by (own := [("seat", 29)]) (by kernel_rfl)) (fun _ _ _ _ _ => (pgd_name (i := 29) nd rfl (by first | exact .inl rfl | exact .inr rfl))) (fun _ _ _ _ _ => (ptsd_one (ptd_cmp (op_eqD (ru0 hr)) od_eq ((pd_ix (ix_all (ru1 hr)) od_ix ((pd_var (pv 12))).toSh ((pd_var (pv 29))).toSh (fun _ _ => rfl))).toSh ((pd_var (pv 24))).toSh (nomark _)))) (fun _ _ _ _ _ => (pd_var (pv 29))))).toSh ((pd_var (pv 26))).toSh (fun _ _ => rfl))) sds_nil))).frz 25) sds_nil))) (sds_cons (sd_asg (i := 27) (pd_not (pd_call (ok__law_blocks g) (hr.mono (by decide)) (by rfl) g.g__law_blocks g.F__law_blocks.kp (b__law_blocks g) (pad_cons (pd_var (pv 10)) (pad_cons (pd_var (pv 11)) (pad_cons (pd_callTy call_tuple_ofF cd_tup (by rfl) g.b_tuple boot_tuple (phd_cons (pd_varS (pv 23)) phd_nil)) pad_nil))))) nd rfl (.inl rfl)) (sds_cons (sd_asg (i := 28) (pd_callK0 (ok_is_stable_outcome g) (hr.mono (by decide)) (by rfl) g.g_is_stable_outcome g.F_is_stable_outcome.kp (kb_is_stable_outcome_1_0 g) (pkd_cons (pd_callTy call_tuple_ofF cd_tup (by rfl) g.b_tuple boot_tuple (phd_cons (pd_varS (pv 20)) phd_nil)) (pkd_cons (pd_var (pv 9)) pkd_nil))) nd rfl (.inl rfl)) (sds_cons (sd_ret (pd_and (pd_callB call_isi cd_isi (by rfl) g.b_isinstance boot_isinstance (phd_cons ((pd_var (pv 28))).toSh (phd_cons ((pd_ty (pe_bltn (by rfl) g.b_bool boot_bool rfl))).toSh phd_nil))) (pd_and (pd_cmp (op_eqD (ru0 hr)) od_eq ((pd_var (pv 28))).toSh ((pd_var (pv 27))).toSh (nomark _)) (pd_one (pd_cmp (op_eqD (ru0 hr)) od_eq ((pd_call (ok__law_same g) (hr.mono (by decide)) (by rfl) g.g__law_same g.F__law_same.kp (b__law_same g) (pad_cons (pd_call (ok_blocking_seats g) (hr.mono (by decide)) (by rfl) g.g_blocking_seats g.F_blocking_seats.kp (b_blocking_seats g) (pad_cons (pd_var (pv 9)) (pad_cons (pd_callTy call_tuple_ofF cd_tup (by rfl) g.b_tuple boot_tuple (phd_cons (pd_varS (pv 20)) phd_nil)) pad_nil))) (pad_cons ((pd_lst pad_nil)).frz pad_nil)))).toSh ((pd_var (pv 27))).toSh (nomark _)))))) sds_nil)))))))))))))))))))) (by decide), fun ds Q h => ?_⟩
  obtain ⟨named, rfl, hQ⟩ := h
  simp
  refine take_in 5 rfl (by decide) (by decide) fun n0 hn0 => add_in (j := 2) rfl (take_in 3 rfl (by decide) (by decide) fun m0 hm0 => add_in (j := 1) rfl ?_)
  obtain ⟨n, en, hn⟩ : ∃ n, n = 2 + n0 ∧ 2 ≤ n ∧ n ≤ 6 := ⟨_, rfl, by omega, by omega⟩
  obtain ⟨m, em, hm⟩ : ∃ m, m = 1 + m0 ∧ 1 ≤ m ∧ m ≤ 3 := ⟨_, rfl, by omega, by omega⟩
  rw [← en, ← em]
  refine take_in 2 rfl (by decide) (by decide) fun c1 hc1 => ⟨by simp, n, m, _, rfl, by omega, by omega, by omega, fun A hA => take_in 2 rfl (by decide) (by decide) fun c2 hc2 => ⟨by simp, m, n, _, rfl, by omega, by omega, by omega, fun B hB => ?_⟩⟩
  refine lc_any (n := m) nD (fun x => 1 ≤ x ∧ x ≤ 3) (fun P h => ⟨_, rfl, h⟩) (by omega) (by omega) (fun a ha R R0 hR => by simp; exact take_in 3 rfl (by decide) (by decide) fun b hb => add_in (j := 1) rfl (hR _ ⟨by omega, by omega⟩)) (fun ss hs1 hs2 => tup_in ?_)
  refine lc_any (n := n) nD (fun x => x < 4) (fun P h => ⟨_, rfl, h⟩) (by omega) (by omega) (fun a ha R R0 hR => by simp; exact take_in 4 rfl (by decide) (by decide) hR) (fun gs hg1 hg2 => tup_in ⟨by omega, by omega, by simp, tup_in ?_⟩)
  rw [rep_flat, show ((m : Nat) : Int).toNat = m from rfl]
  have sd := drawn_sides hA hB (by omega) (by omega)
  have hAl := hA.1
  have hBl := hB.1
  clear hA hB
  obtain ⟨V, rfl, rfl, rfl, rfl, hV⟩ : ∃ V : PL, A = V.lefts ∧ B = V.rights ∧ ss = V.seats ∧ gs = V.groups ∧ V.limits = List.replicate m [20, 20, 20, 20] := ⟨⟨A, B, ss, gs, _⟩, rfl, rfl, rfl, rfl, rfl⟩
  have ok : V.Ok := by
    refine ⟨sd, ⟨by omega, fun x hx => by have := hs2 x hx; omega⟩, ⟨by omega, hg2⟩, ⟨by rw [hV]; simp; omega, fun x hx => ?_⟩⟩
    rw [hV] at hx
    rw [(List.mem_replicate.mp hx).2]
    exact ⟨rfl, fun y hy => by simp at hy; omega⟩
  have w : Wide V := fun r hr g hg => by
    have : row V.limits r = [20, 20, 20, 20] := by
      rw [hV]
      unfold row
      rw [List.getD_eq_getElem?_getD, List.getElem?_replicate, if_pos (by omega)]
      rfl
    rw [this]
    match g, hg with
    | 0, _ => decide
    | 1, _ => decide
    | 2, _ => decide
    | 3, _ => decide
  have at3 : ∀ r, at0 V.seats r ≤ 3 := fun r => by
    by_cases h : r < V.seats.length
    · exact (at0_all hs2 r h).2
    · have : at0 V.seats r = 0 := by simp [at0, h]
      omega
  have tot : startL V.seats V.rights.length ≤ 9 := by
    have := start_le at3 V.rights.length
    omega
  have tot1 : 1 ≤ startL V.seats V.rights.length := by
    have h0 := (at0_all hs2 0 (by omega)).1
    have h1 := @start_mono V.seats 1 V.rights.length (by omega)
    rw [start_succ] at h1
    omega
  have hs := spl_ok ok (by omega) tot1
  rw [← rep_rk, ← hV]
  refine ⟨V, rfl, ok, ⟨V.lefts, V.rights, V.seats, rfl, sd, by omega, fun x hx => by have := hs2 x hx; omega, ?_⟩⟩
  simp
  refine ⟨_, _, rfl, hs, ⟨_, _, rfl, hs, fun e1 ie1 ne1 be1 => ?_⟩⟩
  have hspn : (sPL (splA V.lefts V.seats) (splB V.rights V.seats)).lefts.length = n := by simp [sPL, splA]; omega
  have he1 : e1.length = n := by rw [ie1.len, hspn]
  refine ⟨e1, by rw [he1], by omega, ⟨_, _, rfl, hs, fun e2 ie2 ne2 we2 => ?_⟩⟩
  have he2 : e2.length = n := by rw [ie2.len, hspn]
  refine ⟨e2, by rw [he2], by omega, ⟨V, rfl, ok, fun o1 io1 no1 bo1 => ⟨V, rfl, ok, fun o2 io2 no2 wo2 => ?_⟩⟩⟩
  have T := seats_tr ok w hs
  have eo1 : o1 = e1.map (Option.map (phi V)) := tr_best T ok (sPL_ok hs) io1 no1 bo1 ie1 ne1 be1
  have eo2 : o2 = e2.map (Option.map (phi V)) := tr_worst T ok (sPL_ok hs) io2 no2 wo2 ie2 ne2 we2
  have ho1 : o1.length = n := by rw [io1.len]; omega
  have ho2 : o2.length = n := by rw [io2.len]; omega
  have own : ∀ s r, s < (splB V.rights V.seats).length → fIx (Dat.lst (List.map nD (ownersL V.seats V.rights.length))) (nD s) r = r (nD (phi V s)) := fun s r h => fIx_lst (by simpa [splB] using h)
  simp
  refine for_zip (fun P h => ⟨_, rfl, _, rfl, h⟩) rfl (by simp) (fun i ε => ∃ (x16 x17 : Sl), ε = [Sl.val Dat.cell, Sl.val (Dat.bl named), Sl.val (nD n), Sl.val (nD m), Sl.val (rks V.lefts), Sl.val (rks V.rights), Sl.val (Dat.tup (List.map nD V.seats)), Sl.val (Dat.tup (List.map nD V.groups)), Sl.val (Dat.tup (List.map rk V.limits)), Sl.val (Dat.obj g.C_Places (fsP V)), Sl.val (rks (splA V.lefts V.seats)), Sl.val (rks (splB V.rights V.seats)), Sl.val (Dat.lst (List.map nD (ownersL V.seats V.rights.length))), Sl.val (Dat.obj g.C_Sides (fsS (splA V.lefts V.seats) (splB V.rights V.seats))), Sl.val (Dat.lst [outD e1, outD e2]), Sl.val (Dat.lst [outD o1, outD o2]), x16, x17, Sl.off, Sl.off, Sl.off, Sl.off, Sl.off, Sl.off, Sl.off, Sl.off, Sl.off, Sl.off, Sl.off, Sl.off, Sl.off]) ⟨_, _, rfl⟩ (fun i x y ε hx hy ⟨x16, x17, hε⟩ => ?_) (fun ε ⟨x16, x17, hε⟩ => ?_)
  · obtain ⟨e, o, rfl, rfl, he, heo, io, no, ie⟩ : ∃ e o, x = outD e ∧ y = outD o ∧ e.length = n ∧ o = e.map (Option.map (phi V)) ∧ IsOut V o ∧ (∀ l r, ¬ Blk V o l r) ∧ IsOut (sPL (splA V.lefts V.seats) (splB V.rights V.seats)) e := by
      match i, hx, hy with
      | 0, hx, hy => cases hx; cases hy; exact ⟨e1, o1, rfl, rfl, he1, eo1, io1, no1, ie1⟩
      | 1, hx, hy => cases hx; cases hy; exact ⟨e2, o2, rfl, rfl, he2, eo2, io2, no2, ie2⟩
    subst hε
    simp
    refine lc_tup e oD (fun x => some (oD (x.map (phi V)))) (fun P h => ⟨_, rfl, h⟩) (by omega) (fun x hx R hR => ?_) ?_
    · cases x with
      | none => simp [oD]; exact .inr ⟨rfl, hR⟩
      | some s =>
        obtain ⟨l, hl, hls⟩ := mem_oat hx
        have hsl := (ie.fit l s hls (by rw [hspn]; omega)).1
        simp
        refine .inl ⟨rfl, ?_⟩
        show fIx _ (nD s) _
        rw [own s _ hsl]
        exact hR
    · rw [fm_map]
      refine tup_in (.inl ⟨outD o, ?_, good_out (by rw [heo]; simp; omega), .inr ⟨rfl, V, o, rfl, ok, io, fun b hb => ?_⟩⟩)
      · rw [heo]
        simp [outD]
      · have : b = true := hb.mpr no
        subst this
        simp
  · subst hε
    simp
    have q1 : ∀ (l : Nat) R, l < n → fIx (outD e1) (Dat.int (l : Int)) R = R (oD (oat e1 l)) := fun l R h => fIx_out (by omega)
    refine lc_r1 (n := n) (fun l => if (oat e1 l).isSome = true then some (nD l) else none) (fun P h => ⟨_, rfl, h⟩) (by omega) (by omega) (fun l hl R hR => ?_) ?_
    · simp
      refine ⟨outD e1, rfl, ?_⟩
      rw [q1 l _ hl]
      cases e : oat e1 l with
      | none => rw [e] at hR; exact .inl ⟨rfl, hR⟩
      | some s => rw [e] at hR; exact .inr ⟨rfl, hR⟩
    rw [fm_if, show (List.range n).filter (fun l => (oat e1 l).isSome) = paired e1 by unfold paired; rw [he1]]
    refine tup_in ?_
    refine lc_r1 (n := m) (fun r => some (nD (e1.filter fun x => decide (x.map (phi V) = some r)).length)) (fun P h => ⟨_, rfl, h⟩) (by omega) (by omega) (fun r hr R hR => ?_) ?_
    · simp
      refine lc_tup e1 oD (fun x => if decide (x.map (phi V) = some r) = true then some (oD x) else none) (fun P h => ⟨_, rfl, outD e1, rfl, h⟩) (by omega) (fun x hx R hR => ?_) ?_
      · cases x with
        | none =>
          have hR : R none := by simpa using hR
          simp [oD]
          exact .inl ⟨rfl, hR⟩
        | some s =>
          obtain ⟨l, hl, hls⟩ := mem_oat hx
          have hsl := (ie1.fit l s hls (by rw [hspn]; omega)).1
          simp
          refine .inr ⟨rfl, ?_⟩
          show fIx _ (nD s) _
          rw [own s _ hsl]
          refine ⟨by simp, ?_⟩
          rw [show Dat.int (r : Int) = nD r from rfl, eqD_nn]
          by_cases e : phi V s = r
          · exact .inr ⟨by simp [e], by simpa [e] using hR⟩
          · exact .inl ⟨by simp [e], by simpa [e] using hR⟩
      · rw [fm_if]
        show fLen [Dat.lst _] _
        rw [o_LenL, List.length_map]
        exact hR
    rw [fm_map]
    refine tup_in ⟨V, rfl, ok, fun o io no bo => ⟨_, _, rfl, hs, fun e d ie ne be => ?_⟩⟩
    have eo : o = o1 := best_uniq ok io no bo io1 no1 bo1
    have ee : e = e1 := best_uniq (sPL_ok hs) ie ne be ie1 ne1 be1
    subst eo
    subst ee
    have hp : paired o = paired e := by rw [eo1]; exact paired_map
    have hc : (List.range V.rights.length).map (fun r => (memb o r).length) = (List.range m).map fun r => (e.filter fun x => decide (x.map (phi V) = some r)).length := by
      rw [hBl]
      apply List.map_congr_left
      intro r _
      rw [memb_count, eo1, List.filter_map, List.length_map]
      rfl
    have hpl := @paired_len e
    refine ⟨rk (paired e), rfl, .inl ⟨.lst [.tup [rk (paired e), rk ((List.range m).map fun r => (e.filter fun x => decide (x.map (phi V) = some r)).length)], rk (paired e)], ?_, ?_, .inr ⟨rfl, ?_⟩⟩⟩
    · rw [hp, hc]
      simp [rk]
    · refine good_lst (by simp) fun x hx => ?_
      rcases (by simpa using hx : x = _ ∨ x = _) with q | q
      · rw [q]
        refine good_tup (by simp) fun y hy => ?_
        rcases (by simpa using hy : y = _ ∨ y = _) with q | q
        · rw [q]; exact good_rk (by omega)
        · rw [q]; exact good_rk (by simp; omega)
      · rw [q]; exact good_rk (by omega)
    refine ⟨by omega, by omega, by simp, ?_⟩
    rw [show ((n : Nat) : Int).toNat = n from rfl, rep_oD]
    refine for_r1 (n := n) (fun P h => ⟨_, rfl, h⟩) (by omega) (by omega) (fun i ε => ∃ (d : List (Option Nat)) (x16 x17 x18 x19 x21 x22 : Sl), ε = [Sl.val Dat.cell, Sl.val (Dat.bl named), Sl.val (nD n), Sl.val (nD m), Sl.val (rks V.lefts), Sl.val (rks V.rights), Sl.val (Dat.tup (List.map nD V.seats)), Sl.val (Dat.tup (List.map nD V.groups)), Sl.val (Dat.tup (List.map rk V.limits)), Sl.val (Dat.obj g.C_Places (fsP V)), Sl.val (rks (splA V.lefts V.seats)), Sl.val (rks (splB V.rights V.seats)), Sl.val (Dat.lst (List.map nD (ownersL V.seats V.rights.length))), Sl.val (Dat.obj g.C_Sides (fsS (splA V.lefts V.seats) (splB V.rights V.seats))), Sl.val (Dat.lst [outD e, outD e2]), Sl.val (Dat.lst [outD o, outD o2]), x16, x17, x18, x19, Sl.own (.lst (d.map oD)), x21, x22, Sl.off, Sl.off, Sl.off, Sl.off, Sl.off, Sl.off, Sl.off, Sl.off] ∧ Seatd V d ∧ ∀ l, i ≤ l → oat d l = none)
      ⟨_, _, _, _, _, _, _, rfl, seatd_start (by omega), fun l _ => oat_rep⟩ (fun l ε hl ⟨d, x16, x17, x18, x19, x21, x22, hε, hd, hz⟩ => ?_) (fun ε ⟨d, x16, x17, x18, x19, x21, x22, hε, hd, hz⟩ => ?_)
    · subst hε
      simp
      have hdl : d.length = n := by rw [hd.len]; omega
      have hl' : l < V.lefts.length := by omega
      have hrow := sd.1.2.2 _ (row_mem hl')
      refine DL.lc_tup (row V.lefts l) nD (fun r => if (decide (l ∈ row V.rights r) && decide ((memb d r).length < at0 V.seats r)) = true then some (nD r) else none) (fun P h => ⟨_, rfl, _, rfl, Eq.mpr (fIx_rks hl') h⟩) (by have := hrow.len; omega) (fun r hr R hR => ?_) ?_
      · have hrm : r < V.rights.length := sd.2.2 _ (row_mem hl') r hr
        simp
        rw [fIx_rks hrm]
        show fIn false (nD l) (rk (row V.rights r)) _
        rw [fIn_rk]
        by_cases h1 : l ∈ row V.rights r
        · refine .inr ⟨by simp [h1], ?_⟩
          refine DL.lc_lst d oD (fun x => if decide (x = some r) = true then some (oD x) else none) (fun P h => ⟨_, rfl, h⟩) (by omega) (fun x hx R2 hR2 => ?_) ?_
          · simp
            by_cases e : x = some r
            · exact .inr ⟨by simp [e], by simpa [e] using hR2⟩
            · exact .inl ⟨by simp [e], by simpa [e] using hR2⟩
          · rw [fm_if]
            show fLen [Dat.lst _] _
            rw [o_LenL, List.length_map, ← memb_count]
            refine ⟨rfl, ?_⟩
            show fIx (rk V.seats) (nD r) _
            rw [fIx_rk (by omega)]
            show (fun d => d = Dat.bl false ∧ R none ∨ d = Dat.bl true ∧ R (some (nD r))) (Dat.bl (decide (((memb d r).length : Int) < (at0 V.seats r : Int))))
            by_cases h2 : (memb d r).length < at0 V.seats r
            · refine .inr ⟨?_, by simpa [h1, h2] using hR⟩
              rw [decide_eq_true (by omega)]
            · refine .inl ⟨?_, by simpa [h1, h2] using hR⟩
              rw [decide_eq_false (by omega)]
        · exact .inl ⟨by simp [h1], by simpa [h1] using hR⟩
      rw [fm_if]
      generalize hF : (row V.lefts l).filter _ = F
      have hFm : ∀ r ∈ F, r ∈ row V.lefts l ∧ l ∈ row V.rights r ∧ (memb d r).length < at0 V.seats r := fun r hr => by
        rw [← hF] at hr
        obtain ⟨h1, h2⟩ := List.mem_filter.mp hr
        simp at h2
        exact ⟨h1, h2.1, h2.2⟩
      have hFl : F.length ≤ 20 := by
        rw [← hF]
        have := hrow.len
        exact Nat.le_trans (List.length_filter_le _ _) (by omega)
      have non : ∃ x, ixN d.length (l : Int) = some x ∧ ∃ d2 : List (Option Nat), (List.map oD d).set x Dat.non = List.map oD d2 ∧ Seatd V d2 ∧ ∀ l1 : Nat, l + 1 ≤ l1 → oat d2 l1 = none :=
        ⟨l, ixN_nat (by omega), d.set l none, by rw [List.map_set]; rfl, by rw [seatd_non hd (hz l (by omega)) hl']; exact hd, fun l1 h1 => by rw [oat_set_ne (by omega)]; exact hz l1 (by omega)⟩
      refine ⟨by simp, ?_⟩
      rw [eqD_lnil]
      by_cases hF0 : F = []
      · exact .inl ⟨by simp [hF0], non⟩
      · refine .inr ⟨by simp [hF0], take_in 5 rfl (by decide) (by decide) fun c hc => ?_⟩
        have hFp : 0 < F.length := List.length_pos_iff.mpr hF0
        simp
        by_cases hc0 : c = 0
        · exact .inl ⟨hc0, non⟩
        · refine .inr ⟨by omega, F.length, rfl, hFp, by omega, fun k hk => ?_⟩
          show fIx (Dat.lst (List.map nD F)) (nD k) _
          rw [fIx_lst hk]
          obtain ⟨g1, g2, g3⟩ := hFm _ (at0_mem hk)
          exact ⟨l, ixN_nat (by omega), d.set l (some (at0 F k)), by rw [List.map_set]; rfl, seatd_put hd (hz l (by omega)) hl' g1 g2 g3, fun l1 h1 => by rw [oat_set_ne (by omega)]; exact hz l1 (by omega)⟩
    · subst hε
      simp
      refine ⟨by omega, by omega, by simp, ?_⟩
      rw [show ((n : Nat) : Int).toNat = n from rfl, rep_oD]
      refine for_r1 (n := m) (fun P h => ⟨_, rfl, h⟩) (by omega) (by omega) (fun i ε => ∃ (f : List (Option Nat)) (x16 x17 x18 x19 x21 x22 x24 x25 x26 : Sl), ε = [Sl.val Dat.cell, Sl.val (Dat.bl named), Sl.val (nD n), Sl.val (nD m), Sl.val (rks V.lefts), Sl.val (rks V.rights), Sl.val (Dat.tup (List.map nD V.seats)), Sl.val (Dat.tup (List.map nD V.groups)), Sl.val (Dat.tup (List.map rk V.limits)), Sl.val (Dat.obj g.C_Places (fsP V)), Sl.val (rks (splA V.lefts V.seats)), Sl.val (rks (splB V.rights V.seats)), Sl.val (Dat.lst (List.map nD (ownersL V.seats V.rights.length))), Sl.val (Dat.obj g.C_Sides (fsS (splA V.lefts V.seats) (splB V.rights V.seats))), Sl.val (Dat.lst [outD e, outD e2]), Sl.val (Dat.lst [outD o, outD o2]), x16, x17, x18, x19, Sl.own (.lst (d.map oD)), x21, x22, Sl.own (.lst (f.map oD)), x24, x25, x26, Sl.off, Sl.off, Sl.off, Sl.off] ∧ Fil V d (fun r _ => r < i) f)
        ⟨_, _, _, _, _, _, _, _, _, _, rfl, (Fil.start (by omega)).to fun l r _ => by simp⟩ (fun r ε hr ⟨f, x16, x17, x18, x19, x21, x22, x24, x25, x26, hε, hf⟩ => ?_) (fun ε ⟨f, x16, x17, x18, x19, x21, x22, x24, x25, x26, hε, hf⟩ => ?_)
      · subst hε
        simp
        have hr' : r < V.rights.length := by omega
        have hrow := sd.2.1.2.2 _ (row_mem hr')
        refine DL.lc_tup (row V.rights r) nD (fun l => if decide (oat d l = some r) = true then some (nD l) else none) (fun P h => ⟨_, rfl, _, rfl, Eq.mpr (fIx_rks hr') h⟩) (by have := hrow.len; omega) (fun l hl R hR => ?_) ?_
        · have hlV : l < V.lefts.length := hrow.2.1 l hl
          simp
          rw [fIx_lo (by rw [hd.len]; exact hlV)]
          refine ⟨by simp, ?_⟩
          rw [show Dat.int (r : Int) = nD r from rfl, eqD_on]
          by_cases e : oat d l = some r
          · exact .inr ⟨by simp [e], by simpa [e] using hR⟩
          · exact .inl ⟨by simp [e], by simpa [e] using hR⟩
        rw [fm_if, show (row V.rights r).filter (fun l => decide (oat d l = some r)) = rowOf V d r from rfl]
        have hro := rowOf_len ok hd hr'
        have hro3 := at3 r
        refine for_r1 (n := (rowOf V d r).length) (fun P h => ⟨_, rfl, by simpa using h⟩) (by omega) (by omega) (fun k ε => ∃ (f : List (Option Nat)) (x26 : Sl), ε = [Sl.val Dat.cell, Sl.val (Dat.bl named), Sl.val (nD n), Sl.val (nD m), Sl.val (rks V.lefts), Sl.val (rks V.rights), Sl.val (Dat.tup (List.map nD V.seats)), Sl.val (Dat.tup (List.map nD V.groups)), Sl.val (Dat.tup (List.map rk V.limits)), Sl.val (Dat.obj g.C_Places (fsP V)), Sl.val (rks (splA V.lefts V.seats)), Sl.val (rks (splB V.rights V.seats)), Sl.val (Dat.lst (List.map nD (ownersL V.seats V.rights.length))), Sl.val (Dat.obj g.C_Sides (fsS (splA V.lefts V.seats) (splB V.rights V.seats))), Sl.val (Dat.lst [outD e, outD e2]), Sl.val (Dat.lst [outD o, outD o2]), x16, x17, x18, x19, Sl.own (.lst (d.map oD)), x21, x22, Sl.own (.lst (f.map oD)), Sl.val (Dat.int (r : Int)), Sl.val (.lst ((rowOf V d r).map nD)), x26, Sl.off, Sl.off, Sl.off, Sl.off] ∧ Fil V d (fun q l => q < r ∨ (q = r ∧ l ∈ (rowOf V d r).take k)) f)
          ⟨f, x26, rfl, hf.open_⟩ (fun k ε hk ⟨f, x26, hε, hf⟩ => ?_) (fun ε ⟨f, x26, hε, hf⟩ => ?_)
        · subst hε
          simp
          refine DL.lc_r1 (n := (ownersL V.seats V.rights.length).length) (fun s => if decide (at0 (ownersL V.seats V.rights.length) s = r) = true then some (nD s) else none) (fun P h => ⟨_, rfl, by simpa using h⟩) (by show startL V.seats V.rights.length ≤ 64; omega) (by show startL V.seats V.rights.length ≤ 100000; omega) (fun s hsl R hR => ?_) ?_
          · simp
            show fIx (Dat.lst (List.map nD (ownersL V.seats V.rights.length))) (nD s) _
            rw [fIx_lst hsl]
            refine ⟨by simp, ?_⟩
            rw [show Dat.int (r : Int) = nD r from rfl, eqD_nn]
            by_cases e : at0 (ownersL V.seats V.rights.length) s = r
            · have hR : R (some (nD s)) := by simpa [e] using hR
              exact .inr ⟨by simp [e], hR⟩
            · exact .inl ⟨by simp [e], by simpa [e] using hR⟩
          rw [fm_if, nums_filter hr']
          show fIx (Dat.lst ((numsL V.seats r).map nD)) (nD k) _
          rw [fIx_lst (by rw [nums_len]; omega), at0_nums (by omega)]
          have hx := at0_get hk
          have hxm := (List.mem_filter.mp (List.mem_of_getElem? hx)).1
          have hxl : at0 (rowOf V d r) k < V.lefts.length := hrow.2.1 _ hxm
          exact ⟨nD (at0 (rowOf V d r) k), atI_nat (by rw [List.getElem?_map, hx]; rfl), ((at0 (rowOf V d r) k : Nat) : Int), rfl, at0 (rowOf V d r) k, ixN_nat (by rw [hf.len]; exact hxl), f.set (at0 (rowOf V d r) k) (some (startL V.seats r + k)), by rw [List.map_set]; rfl, Fil.put ok hr' hf hx⟩
        · subst hε
          exact ⟨f, ⟨_, _, _, _, _, _, _, _, _, rfl⟩, hf.next hd⟩
      · subst hε
        simp
        have io : IsOut V d := seatd_out ok w hd
        have ff : f = fillL V d := Fil.done ok hd w (by rw [hBl]; exact hf)
        subst ff
        refine ⟨_, _, fillL V d, rfl, hs, fill_pairs ok (fill_out ok w io) (by decide), fun b hb => ?_⟩
        rw [blk_fill ok w io] at hb
        have rest : ∀ c : Bool, (c = true ↔ ∀ l r, ¬ Blk V d l r) → S_is_stable_outcome g.C_Places [Dat.obj g.C_Places (fsP V), Dat.tup (List.map oD d)] fun d_2 =>
            ∃ a, tyN d_2 = some a ∧ (isT a "bool" = false ∧ Q (Dat.bl false) ∨ isT a "bool" = true ∧ pl 20 d_2 = true ∧ (eqD d_2 (Dat.bl c) = false ∧ Q (Dat.bl false) ∨ eqD d_2 (Dat.bl c) = true ∧
              S_blocking_seats g.C_Places [Dat.obj g.C_Places (fsP V), Dat.tup (List.map oD d)] fun d => S_same 5 [d, Dat.lst []] fun d => pl 20 d = true ∧ Q (Dat.bl (eqD d (Dat.bl c))))) := fun c hc => by
          refine ⟨V, d, rfl, ok, io, fun b2 hb2 => ⟨"bool", rfl, .inr ⟨by decide, by simp, ?_⟩⟩⟩
          have e2 : b2 = c := by
            rw [Bool.eq_iff_iff, hb2, hc]
          subst e2
          refine .inr ⟨by cases b2 <;> rfl, V, d, rfl, ok, io, fun bs hbs => .inr ⟨_, rfl, by simp, ?_⟩⟩
          have e3 : decide (bs.map pairD = []) = b2 := by
            rw [Bool.eq_iff_iff, hb2, ← hbs]
            simp
          rw [e3]
          have : eqD (Dat.bl b2) (Dat.bl b2) = true := by cases b2 <;> rfl
          rw [this]
          exact hQ
        cases b with
        | false => exact .inl ⟨rfl, rest true (Iff.intro (fun _ l r hB => nomatch (hb.mpr ⟨l, r, hB⟩)) (fun _ => rfl))⟩
        | true =>
          obtain ⟨l, r, hB⟩ := hb.mp rfl
          exact .inr ⟨rfl, rest false (Iff.intro (fun h => nomatch h) (fun h => (h l r hB).elim))⟩
end
end K90
set_option maxRecDepth 100000
set_option maxHeartbeats 4000000
namespace K90
open PySem PySem.Spec PyProof.Rows L2 RZ DL
open C8 (call_isC pe_gc InsC)
open M90
def S__law_groups_right : List Dat → (Dat → Prop) → Prop := fun ds P => ∃ b : Bool, ds = [.cell, .bl b] ∧ P (.bl true)
theorem len__law_groups_right (ds : List Dat) (Q : Dat → Prop) (h : S__law_groups_right ds Q) : ds.length = P__law_groups_right.length := by
  obtain ⟨n, rfl, _⟩ := h; rfl
section
variable {P : Program} {w : World} {K : PySem.W.Frag} {mg : Str → Option Value} {base : Heap}
theorem ok__law_groups_right (g : Fx K mg) : FnOk P w K mg base L2.CX0 8 g.f__law_groups_right g.fd__law_groups_right P__law_groups_right (spF 1000000 S__law_groups_right) := by
  refine okD g.F__law_groups_right sc__law_groups_right len__law_groups_right (fun cdv A outer s H E hr => ?_)
  have nd := (sc__law_groups_right).nd
  refine ⟨_, SDs.cost (sds_cons (sd_par (i := 2) (j := 3) (pmd_cons (m := .rep) (pd_op op_addA od_add (pd_int).toSh ((pd_call (ok__law_take g) (hr.mono (by decide)) (by rfl) g.g__law_take g.F__law_take.kp (b__law_take g) (pad_cons (pd_var (pv 0)) (pad_cons pd_int pad_nil)))).toSh) (pmd_cons (m := .rep) (pd_op op_addA od_add (pd_int).toSh ((pd_call (ok__law_take g) (hr.mono (by decide)) (by rfl) g.g__law_take g.F__law_take.kp (b__law_take g) (pad_cons (pd_var (pv 0)) (pad_cons pd_int pad_nil)))).toSh) pmd_nil)) rfl rfl nd rfl rfl (by decide) rfl rfl (by rfl)) (sds_cons (sd_mul (xN := 0) (is := [4, 5]) (pmd_cons (m := .rep) (pd_call (ok__law_rankings g) (hr.mono (by decide)) (by rfl) g.g__law_rankings g.F__law_rankings.kp (b__law_rankings g) (pad_cons (pd_var (pv 0)) (pad_cons (pd_var (pv 2)) (pad_cons (pd_var (pv 3)) (pad_cons pd_bl pad_nil))))) (pmd_cons (m := .rep) (pd_call (ok__law_rankings g) (hr.mono (by decide)) (by rfl) g.g__law_rankings g.F__law_rankings.kp (b__law_rankings g) (pad_cons (pd_var (pv 0)) (pad_cons (pd_var (pv 3)) (pad_cons (pd_var (pv 2)) (pad_cons (pd_cmp (op_eqD (ru0 hr)) od_eq ((pd_call (ok__law_take g) (hr.mono (by decide)) (by rfl) g.g__law_take g.F__law_take.kp (b__law_take g) (pad_cons (pd_var (pv 0)) (pad_cons pd_int pad_nil)))).toSh (pd_int).toSh (nomark _)) pad_nil))))) pmd_nil)) rfl rfl rfl (pgs_cons (pg_name (i := 4) nd rfl (.inr rfl)) (pgs_cons (pg_name (i := 5) nd rfl (.inr rfl)) pgs_nil))) (sds_cons (sd_asg (i := 6) (pd_callTy call_tuple_ofF cd_tup (by rfl) g.b_tuple boot_tuple (phd_cons ((pd_lc 64 rfl nd (pid_range1 (by rfl) g.b_range (pad_cons (pd_var (pv 2)) pad_nil)) (blkOk_by (own := [("left", 17)]) (by kernel_rfl)) (fun _ _ _ _ _ => (pgd_name (i := 17) nd rfl (by first | exact .inl rfl | exact .inr rfl))) (fun _ _ _ _ _ => ptsd_nil) (fun _ _ _ _ _ => (pd_call (ok__law_take g) (hr.mono (by decide)) (by rfl) g.g__law_take g.F__law_take.kp (b__law_take g) (pad_cons (pd_var (pv 0)) (pad_cons pd_int pad_nil)))))).toSh phd_nil)) nd rfl (.inr rfl)) (sds_cons (sd_asg (i := 7) (pd_callTy call_tuple_ofF cd_tup (by rfl) g.b_tuple boot_tuple (phd_cons ((pd_lc 64 rfl nd (pid_range1 (by rfl) g.b_range (pad_cons (pd_var (pv 3)) pad_nil)) (blkOk_by (own := [("right", 15)]) (by kernel_rfl)) (fun _ _ _ _ _ => (pgd_name (i := 15) nd rfl (by first | exact .inl rfl | exact .inr rfl))) (fun _ _ _ _ _ => ptsd_nil) (fun _ _ _ _ _ => (pd_op op_addA od_add ((pd_callTy call_tuple_ofF cd_tup (by rfl) g.b_tuple boot_tuple (phd_cons ((pd_lc 64 rfl nd (pid_range1 (by rfl) g.b_range (pad_cons pd_int pad_nil)) (blkOk_by (own := [("group", 16)]) (by kernel_rfl)) (fun _ _ _ _ _ => (pgd_name (i := 16) nd rfl (by first | exact .inl rfl | exact .inr rfl))) (fun _ _ _ _ _ => ptsd_nil) (fun _ _ _ _ _ => (pd_call (ok__law_take g) (hr.mono (by decide)) (by rfl) g.g__law_take g.F__law_take.kp (b__law_take g) (pad_cons (pd_var (pv 0)) (pad_cons pd_int pad_nil)))))).toSh phd_nil))).toSh ((pd_tup (pad_cons pd_int pad_nil))).toSh)))).toSh phd_nil)) nd rfl (.inr rfl)) (sds_cons (sd_asg (i := 8) (pd_make g.M_Places (okI_Places g) (hr.mono (by decide)) (by rfl) g.g_Places (bI_Places g) (pad_cons (pd_var (pv 4)) (pad_cons (pd_var (pv 5)) (pad_cons (pd_callTy call_tuple_ofF cd_tup (by rfl) g.b_tuple boot_tuple (phd_cons ((pd_op op_mulA od_mul ((pd_lst (pad_cons pd_int pad_nil))).toSh ((pd_var (pv 3))).toSh)).toSh phd_nil)) (pad_cons (pd_var (pv 6)) (pad_cons (pd_var (pv 7)) pad_nil)))))) nd rfl (.inl rfl)) (sds_cons (sd_asg (i := 9) ((pd_lc 64 rfl nd (pid_list ((pd_lc 64 rfl nd (pid_range1 (by rfl) g.b_range (pad_cons (pd_op op_mulA od_mul (pd_int).toSh ((pd_var (pv 3))).toSh) pad_nil)) (blkOk_by (own := [("k", 18)]) (by kernel_rfl)) (fun _ _ _ _ _ => (pgd_name (i := 18) nd rfl (by first | exact .inl rfl | exact .inr rfl))) (fun _ _ _ _ _ => ptsd_nil) (fun _ _ _ _ _ => (pd_tup (pad_cons (pd_op op_fdiv od_I ((pd_callTy call_int1 cd_int (by rfl) g.b_int boot_int (phd_cons ((pd_var (pv 18))).toSh phd_nil))).toSh (pd_int).toSh) (pad_cons (pd_op op_mod od_I ((pd_callTy call_int1 cd_int (by rfl) g.b_int boot_int (phd_cons ((pd_var (pv 18))).toSh phd_nil))).toSh (pd_int).toSh) pad_nil)))))).frz) (blkOk_by (own := [("right", 15), ("group", 16)]) (by kernel_rfl)) (fun _ _ _ _ _ => (pgd_tup (n := 2) rfl (pgsd_cons (pgd_name (i := 15) nd rfl (by first | exact .inl rfl | exact .inr rfl)) (pgsd_cons (pgd_name (i := 16) nd rfl (by first | exact .inl rfl | exact .inr rfl)) pgsd_nil)))) (fun _ _ _ _ _ => (ptsd_one (ptd_cmp (op_eqD (ru0 hr)) od_eq ((pd_ix (ix_all (ru1 hr)) od_ix ((pd_ix (ix_all (ru1 hr)) od_ix ((pd_var (pv 7))).toSh ((pd_var (pv 15))).toSh (fun _ _ => rfl))).toSh ((pd_var (pv 16))).toSh (fun _ _ => rfl))).toSh (pd_int).toSh (nomark _)))) (fun _ _ _ _ _ => (pd_tup (pad_cons (pd_var (pv 15)) (pad_cons (pd_var (pv 16)) pad_nil)))))).frz nd rfl (.inr rfl)) (sds_cons (sd_asg (i := 10) (pd_callTy call_tuple_ofF cd_tup (by rfl) g.b_tuple boot_tuple (phd_cons ((pd_lc 64 rfl nd (pid_range1 (by rfl) g.b_range (pad_cons (pd_var (pv 2)) pad_nil)) (blkOk_by (own := [("left", 17)]) (by kernel_rfl)) (fun _ _ _ _ _ => (pgd_name (i := 17) nd rfl (by first | exact .inl rfl | exact .inr rfl))) (fun _ _ _ _ _ => ptsd_nil) (fun _ _ _ _ _ => (pd_callTy call_tuple_ofF cd_tup (by rfl) g.b_tuple boot_tuple (phd_cons ((pd_lc 64 rfl nd (pid_tup (pd_ix (ix_all (ru1 hr)) od_ix ((pd_var (pv 4))).toSh ((pd_var (pv 17))).toSh (fun _ _ => rfl))) (blkOk_by (own := [("right", 15)]) (by kernel_rfl)) (fun _ _ _ _ _ => (pgd_name (i := 15) nd rfl (by first | exact .inl rfl | exact .inr rfl))) (fun _ _ _ _ _ => (ptsd_one (ptd_cmp (op_inA (ru hr)) od_in ((pd_tup (pad_cons (pd_var (pv 15)) (pad_cons (pd_ix (ix_all (ru1 hr)) od_ix ((pd_var (pv 6))).toSh ((pd_var (pv 17))).toSh (fun _ _ => rfl)) pad_nil)))).toSh ((pd_var (pv 9))).toSh (by with_unfolding_all rfl)))) (fun _ _ _ _ _ => (pd_lindex (ru hr) ((pd_var (pv 9))).toSh (pd_tup (pad_cons (pd_var (pv 15)) (pad_cons (pd_ix (ix_all (ru1 hr)) od_ix ((pd_var (pv 6))).toSh ((pd_var (pv 17))).toSh (fun _ _ => rfl)) pad_nil))))))).toSh phd_nil))))).toSh phd_nil)) nd rfl (.inl rfl)) (sds_cons (sd_asg (i := 11) (pd_callTy call_tuple_ofF cd_tup (by rfl) g.b_tuple boot_tuple (phd_cons ((pd_lc 64 rfl nd (pid_list (pd_var (pv 9))) (blkOk_by (own := [("right", 15), ("group", 16)]) (by kernel_rfl)) (fun _ _ _ _ _ => (pgd_tup (n := 2) rfl (pgsd_cons (pgd_name (i := 15) nd rfl (by first | exact .inl rfl | exact .inr rfl)) (pgsd_cons (pgd_name (i := 16) nd rfl (by first | exact .inl rfl | exact .inr rfl)) pgsd_nil)))) (fun _ _ _ _ _ => ptsd_nil) (fun _ _ _ _ _ => (pd_callTy call_tuple_ofF cd_tup (by rfl) g.b_tuple boot_tuple (phd_cons ((pd_lc 64 rfl nd (pid_tup (pd_ix (ix_all (ru1 hr)) od_ix ((pd_var (pv 5))).toSh ((pd_var (pv 15))).toSh (fun _ _ => rfl))) (blkOk_by (own := [("left", 17)]) (by kernel_rfl)) (fun _ _ _ _ _ => (pgd_name (i := 17) nd rfl (by first | exact .inl rfl | exact .inr rfl))) (fun _ _ _ _ _ => (ptsd_one (ptd_cmp (op_eqD (ru0 hr)) od_eq ((pd_ix (ix_all (ru1 hr)) od_ix ((pd_var (pv 6))).toSh ((pd_var (pv 17))).toSh (fun _ _ => rfl))).toSh ((pd_var (pv 16))).toSh (nomark _)))) (fun _ _ _ _ _ => (pd_var (pv 17))))).toSh phd_nil))))).toSh phd_nil)) nd rfl (.inl rfl)) (sds_cons (sd_if (ptd_cmp (op_eqD (ru0 hr)) od_eq ((pd_var (pv 11))).toSh ((pd_tup pad_nil)).toSh (nomark _)) (sds_cons (sd_ret (pd_call (ok__law_same g) (hr.mono (by decide)) (by rfl) g.g__law_same g.F__law_same.kp (b__law_same g) (pad_cons ((pd_lst (pad_cons (pd_call (ok_best_seats g) (hr.mono (by decide)) (by rfl) g.g_best_seats g.F_best_seats.kp (b_best_seats g) (pad_cons (pd_var (pv 8)) pad_nil)) (pad_cons (pd_call (ok_seated g) (hr.mono (by decide)) (by rfl) g.g_seated g.F_seated.kp (b_seated g) (pad_cons (pd_var (pv 8)) pad_nil)) pad_nil)))).frz (pad_cons ((pd_lst (pad_cons (pd_op op_mulA od_mul ((pd_tup (pad_cons pd_non pad_nil))).toSh ((pd_var (pv 2))).toSh) (pad_cons (pd_tup (pad_cons (pd_tup pad_nil) (pad_cons (pd_op op_mulA od_mul ((pd_tup (pad_cons pd_int pad_nil))).toSh ((pd_var (pv 3))).toSh) pad_nil))) pad_nil)))).frz pad_nil)))) sds_nil) sds_nil) (sds_cons (sd_asg (i := 12) (pd_make g.M_Sides (okI_Sides g) (hr.mono (by decide)) (by rfl) g.g_Sides (bI_Sides g) (pad_cons (pd_var (pv 10)) (pad_cons (pd_var (pv 11)) pad_nil))) nd rfl (.inl rfl)) (sds_cons (sd_for 64 PassesOwn.never rfl (pid_list ((pd_lst (pad_cons (pd_tup (pad_cons (pd_call (ok__law_row g) (hr.mono (by decide)) (by rfl) g.g__law_row g.F__law_row.kp (b__law_row g) (pad_cons (pd_call (ok_best_for_lefts g) (hr.mono (by decide)) (by rfl) g.g_best_for_lefts g.F_best_for_lefts.kp (b_best_for_lefts g) (pad_cons (pd_var (pv 12)) pad_nil)) (pad_cons (pd_var (pv 2)) pad_nil))) (pad_cons (pd_call (ok_best_seats g) (hr.mono (by decide)) (by rfl) g.g_best_seats g.F_best_seats.kp (b_best_seats g) (pad_cons (pd_var (pv 8)) pad_nil)) pad_nil))) (pad_cons (pd_tup (pad_cons (pd_call (ok__law_row g) (hr.mono (by decide)) (by rfl) g.g__law_row g.F__law_row.kp (b__law_row g) (pad_cons (pd_call (ok_best_for_rights g) (hr.mono (by decide)) (by rfl) g.g_best_for_rights g.F_best_for_rights.kp (b_best_for_rights g) (pad_cons (pd_var (pv 12)) pad_nil)) (pad_cons (pd_var (pv 2)) pad_nil))) (pad_cons (pd_call (ok_worst_seats g) (hr.mono (by decide)) (by rfl) g.g_worst_seats g.F_worst_seats.kp (b_worst_seats g) (pad_cons (pd_var (pv 8)) pad_nil)) pad_nil))) pad_nil)))).frz) (pgd_tup (n := 2) rfl (pgsd_cons (pgd_name (i := 13) nd rfl (.inl rfl)) (pgsd_cons (pgd_name (i := 14) nd rfl (.inl rfl)) pgsd_nil))) (sds_cons (sd_if (ptd_not (ptd_val (pd_call (ok__law_same g) (hr.mono (by decide)) (by rfl) g.g__law_same g.F__law_same.kp (b__law_same g) (pad_cons (pd_var (pv 14)) (pad_cons (pd_callTy call_tuple_ofF cd_tup (by rfl) g.b_tuple boot_tuple (phd_cons ((pd_lc 64 rfl nd (pid_tup (pd_var (pv 13))) (blkOk_by (own := [("spot", 19)]) (by kernel_rfl)) (fun _ _ _ _ _ => (pgd_name (i := 19) nd rfl (by first | exact .inl rfl | exact .inr rfl))) (fun _ _ _ _ _ => ptsd_nil) (fun _ _ _ _ _ => (pd_if (ptd_cmp op_isA od_is ((pd_var (pv 19))).toSh (pd_non).toSh (nomark _)) pd_non (pd_ix (ix_all (ru1 hr)) od_ix ((pd_ix (ix_all (ru1 hr)) od_ix ((pd_var (pv 9))).toSh ((pd_var (pv 19))).toSh (fun _ _ => rfl))).toSh (pd_int).toSh (fun _ _ => rfl)))))).toSh phd_nil)) pad_nil))))) (sds_cons (sd_ret pd_bl) sds_nil) sds_nil) sds_nil)) (sds_cons (sd_ret pd_bl) sds_nil)))))))))))) (by decide), fun ds Q h => ?_⟩
  obtain ⟨named, rfl, hQ⟩ := h
  simp
  refine take_in 5 rfl (by decide) (by decide) fun n0 hn0 => add_in (j := 2) rfl (take_in 2 rfl (by decide) (by decide) fun m0 hm0 => add_in (j := 1) rfl ?_)
  obtain ⟨n, en, hn⟩ : ∃ n, n = 2 + n0 ∧ 2 ≤ n ∧ n ≤ 6 := ⟨_, rfl, by omega, by omega⟩
  obtain ⟨m, em, hm⟩ : ∃ m, m = 1 + m0 ∧ 1 ≤ m ∧ m ≤ 2 := ⟨_, rfl, by omega, by omega⟩
  rw [← en, ← em]
  refine ⟨n, m, true, rfl, by omega, by omega, by omega, fun A hA => take_in 2 rfl (by decide) (by decide) fun c2 hc2 => ⟨by simp, m, n, _, rfl, by omega, by omega, by omega, fun B hB => ?_⟩⟩
  refine lc_any (n := n) nD (fun x => x < 3) (fun P h => ⟨_, rfl, h⟩) (by omega) (by omega) (fun a ha R R0 hR => by simp; exact take_in 3 rfl (by decide) (by decide) hR) (fun gs hg1 hg2 => tup_in ?_)
  refine lc_any (n := m) rk (fun x => ∃ l : List Nat, l.length = 3 ∧ (∀ y ∈ l, y < 2) ∧ x = l ++ [0]) (fun P h => ⟨_, rfl, h⟩) (by omega) (by omega) (fun a ha R R0 hR => ?_) (fun ls hl1 hl2 => tup_in ?_)
  · simp
    refine lc_any (n := 3) nD (fun x => x < 2) (fun P h => h) (by omega) (by omega) (fun a ha R R0 hR => by simp; exact take_in 2 rfl (by decide) (by decide) hR) (fun l hl1 hl2 => tup_in ⟨by simp; omega, ?_⟩)
    have := hR (l ++ [0]) ⟨l, hl1, hl2, rfl⟩
    rw [rk, List.map_append] at this
    exact this
  refine ⟨by omega, by omega, by simp, tup_in ?_⟩
  rw [show ((m : Nat) : Int).toNat = m from rfl, rep4]
  have sd := drawn_sides hA hB (by omega) (by omega)
  have hAl := hA.1
  have hBl := hB.1
  clear hA hB
  obtain ⟨V, rfl, rfl, rfl, rfl, hV⟩ : ∃ V : PL, A = V.lefts ∧ B = V.rights ∧ gs = V.groups ∧ ls = V.limits ∧ V.seats = List.replicate m 4 := ⟨⟨A, B, _, gs, ls⟩, rfl, rfl, rfl, rfl, rfl⟩
  have ok : V.Ok := by
    refine ⟨sd, ⟨by rw [hV]; simp; omega, fun x hx => by rw [hV] at hx; have := (List.mem_replicate.mp hx).2; omega⟩, ⟨by omega, fun x hx => by have := hg2 x hx; omega⟩, ⟨by omega, fun x hx => ?_⟩⟩
    obtain ⟨l, h1, h2, rfl⟩ := hl2 x hx
    refine ⟨by simp [h1], fun y hy => ?_⟩
    rcases List.mem_append.mp hy with q | q
    · have := h2 y q; omega
    · have : y = 0 := by simpa using q
      omega
  have nar : NarG V := by
    refine ⟨fun l => ?_, fun r hr => ?_, fun r q => ?_⟩
    · by_cases h : l < V.groups.length
      · exact at0_all hg2 l h
      · have : at0 V.groups l = 0 := by simp [at0, h]
        omega
    · rw [hV]
      unfold at0
      rw [List.getD_eq_getElem?_getD, List.getElem?_replicate, if_pos (by omega)]
      rfl
    · by_cases h : r < V.limits.length
      · obtain ⟨l, h1, h2, h3⟩ := hl2 _ (row_mem h)
        rw [h3]
        by_cases hq : q < (l ++ [0]).length
        · have := at0_mem hq
          rcases List.mem_append.mp this with z | z
          · have := h2 _ z; omega
          · have : at0 (l ++ [0]) q = 0 := by simpa using z
            omega
        · have : at0 (l ++ [0]) q = 0 := by
            unfold at0
            rw [List.getD_eq_getElem?_getD, List.getElem?_eq_none (by omega)]
            rfl
          omega
      · have : row V.limits r = [] := row_out (by omega)
        rw [this]
        simp [at0]
  refine ⟨V, by rw [hV]; rfl, ok, ?_⟩
  have hgl : V.groups.length = n := hg1
  refine DL.lc_lst ((List.range (3 * m)).map fun k => (k / 3, k % 3)) pairD (fun q => if decide (at0 (row V.limits q.1) q.2 = 1) = true then some (pairD q) else none) (fun P h => ?_) (by simp; omega) (fun q hq R hR => ?_) ?_
  · refine DL.lc_r1 (n := 3 * m) (fun k => some (pairD (k / 3, k % 3))) (fun P h => ?_) (by omega) (by omega) (fun k hk R hR => ?_) ?_
    · refine ⟨_, rfl, .inl (by omega), ?_⟩
      exact h
    · simp
      refine ⟨⟨by omega, by omega⟩, ?_⟩
      have e1 : (k : Int) / 3 = ((k / 3 : Nat) : Int) := by omega
      have e2 : (k : Int) % 3 = ((k % 3 : Nat) : Int) := by omega
      rw [e1, e2]
      exact hR
    · rw [fm_map]
      rw [List.map_map] at h
      exact h
  · obtain ⟨k, hk, rfl⟩ := List.mem_map.mp hq
    have hk := List.mem_range.mp hk
    have hkl : k / 3 < V.limits.length := by omega
    obtain ⟨l, h1, h2, h3⟩ := hl2 _ (row_mem hkl)
    have hk2 : k % 3 < (row V.limits (k / 3)).length := by rw [h3]; simp; omega
    simp [pairD]
    show fIx (rks V.limits) (nD (k / 3)) _
    rw [fIx_rks hkl, fIx_rk hk2]
    refine ⟨by simp, ?_⟩
    rw [show Dat.int 1 = nD 1 from rfl, eqD_nn]
    by_cases e : at0 (row V.limits (k / 3)) (k % 3) = 1
    · have hR : R (some (pairD (k / 3, k % 3))) := by simpa [e] using hR
      exact .inr ⟨by simp [e], hR⟩
    · exact .inl ⟨by simp [e], by simpa [e] using hR⟩
  rw [fm_if, show ((List.range (3 * m)).map fun k => (k / 3, k % 3)).filter (fun q => decide (at0 (row V.limits q.1) q.2 = 1)) = numsG V by unfold numsG; rw [hBl]]
  have hN := @numsG_len V
  refine DL.lc_r1 (n := n) (fun l => some (rk (row (grA V) l))) (fun P h => ⟨_, rfl, h⟩) (by omega) (by omega) (fun l hl R hR => ?_) ?_
  · have hl' : l < V.lefts.length := by omega
    have hrow := sd.1.2.2 _ (row_mem hl')
    simp
    refine DL.lc_tup (row V.lefts l) nD (fun r => if decide ((r, at0 V.groups l) ∈ numsG V) = true then some (nD (spotG V r (at0 V.groups l))) else none) (fun P h => ⟨_, rfl, _, rfl, Eq.mpr (fIx_rks hl') h⟩) (by have := hrow.len; omega) (fun r hr R hR => ?_) ?_
    · simp
      have ga : atI (List.map nD V.groups) (l : Int) = some (nD (at0 V.groups l)) := atI_nat (by rw [List.getElem?_map, at0_get (by omega)]; rfl)
      refine ⟨nD (at0 V.groups l), ga, by simp, fun a b _ => by simp [pairD], ?_⟩
      by_cases e : (r, at0 V.groups l) ∈ numsG V
      · obtain ⟨d1, d2⟩ := dLIx_pair e
        refine .inr ⟨⟨r, _, e, by rw [show Dat.tup [nD r, nD (at0 V.groups l)] = pairD (r, at0 V.groups l) from rfl, eqD_pair]; simp⟩, nD (at0 V.groups l), ga, by simp, fun a b _ => by simp [pairD], (numsG V).idxOf (r, at0 V.groups l), pairD (r, at0 V.groups l), ⟨r, _, spot_at e, rfl⟩, by rw [show Dat.tup [nD r, nD (at0 V.groups l)] = pairD (r, at0 V.groups l) from rfl, eqD_pair]; simp, fun k z hk a b hab hz => ?_, ?_⟩
        · subst hz
          exact d2 k _ hk (by rw [List.getElem?_map, hab]; rfl)
        · have hR : R (some (nD (spotG V r (at0 V.groups l)))) := by simpa [e] using hR
          exact hR
      · refine .inl ⟨fun a b hab => ?_, by simpa [e] using hR⟩
        rw [show Dat.tup [nD r, nD (at0 V.groups l)] = pairD (r, at0 V.groups l) from rfl, eqD_pair]
        have : ¬ (a, b) = (r, at0 V.groups l) := fun q => e (q ▸ hab)
        exact decide_eq_false this
    · rw [fm_if]
      refine tup_in ?_
      rw [row_grA hl'] at hR
      rw [rk, List.map_map] at hR
      exact hR
  rw [fm_map]
  refine tup_in ?_
  refine DL.lc_lst (numsG V) pairD (fun q => some (rk ((row V.rights q.1).filter fun l => decide (at0 V.groups l = q.2)))) (fun P h => ⟨_, rfl, h⟩) (by omega) (fun q hq R hR => ?_) ?_
  · have hq1 := (mem_numsG.mp (show (q.1, q.2) ∈ numsG V from hq)).1
    have hrow := sd.2.1.2.2 _ (row_mem hq1)
    simp [pairD]
    refine DL.lc_tup (row V.rights q.1) nD (fun l => if decide (at0 V.groups l = q.2) = true then some (nD l) else none) (fun P h => ⟨_, rfl, _, rfl, Eq.mpr (fIx_rks hq1) h⟩) (by have := hrow.len; omega) (fun l hl R hR => ?_) ?_
    · have hlV : l < V.lefts.length := hrow.2.1 l hl
      simp
      show fIx (rk V.groups) (nD l) _
      rw [fIx_rk (by omega)]
      refine ⟨by simp, ?_⟩
      rw [eqD_nn]
      by_cases e : at0 V.groups l = q.2
      · have hR : R (some (nD l)) := by simpa [e] using hR
        exact .inr ⟨by simp [e], hR⟩
      · exact .inl ⟨by simp [e], by simpa [e] using hR⟩
    · rw [fm_if]
      exact tup_in hR
  rw [fm_map]
  refine tup_in ?_
  have hwide : (List.range n).map (fun l => rk (row (grA V) l)) = (grA V).map rk := by
    have e : grA V = (List.range n).map (row (grA V)) := by
      apply List.ext_getElem?
      intro i
      rw [List.getElem?_map]
      by_cases hi : i < n
      · rw [List.getElem?_range hi]
        have hi2 : i < (grA V).length := by simp [grA]; omega
        simp [row, hi2]
      · rw [List.getElem?_eq_none (by simp [grA]; omega), List.getElem?_eq_none (by simp; omega)]
        rfl
    conv => rhs; rw [e]
    rw [List.map_map]
    rfl
  have hcop : (numsG V).map (fun q => rk ((row V.rights q.1).filter fun l => decide (at0 V.groups l = q.2))) = (grB V).map rk := by
    unfold grB
    rw [List.map_map]
    rfl
  rw [hwide, hcop]
  refine ⟨pl_rks 18, ?_⟩
  rw [eqD_tnil]
  by_cases hG : numsG V = []
  · have hB0 : grB V = [] := by unfold grB; rw [hG]; rfl
    refine .inr ⟨by simp [hB0], V, rfl, ok, fun o io no bo => ⟨V, rfl, ok, fun o2 io2 no2 bo2 => ⟨by omega, by omega, by simp, by omega, by omega, by simp, ?_⟩⟩⟩
    have e1 := none_out ok nar hG io no
    have e2 := none_out ok nar hG io2 no2
    rw [hAl] at e1 e2
    subst e1
    subst e2
    refine .inl ⟨.lst [outD (List.replicate n none), .tup [rk [], rk (List.replicate m 0)]], ?_, ?_, hQ⟩
    · rw [paired_rep, show ((n : Nat) : Int).toNat = n from rfl, show ((m : Nat) : Int).toNat = m from rfl, rep_oD, rep0, hBl]
      have : (List.range m).map (fun r => (memb (List.replicate n none) r).length) = List.replicate m 0 := by
        rw [← map_zero]
        apply List.map_congr_left
        intro r _
        rw [memb_rep]
        rfl
      rw [this]
      rfl
    · refine good_lst (by simp) fun x hx => ?_
      rcases (by simpa using hx : x = _ ∨ x = _) with q | q
      · rw [q]; exact good_out (by simp; omega)
      · rw [q]
        refine good_tup (by simp) fun y hy => ?_
        rcases (by simpa using hy : y = _ ∨ y = _) with q | q
        · rw [q]; exact good_rk (by simp)
        · rw [q]; exact good_rk (by simp; omega)
  · have hB0 : ¬ grB V = [] := fun e => hG (List.length_eq_zero_iff.mp (by have := congrArg List.length e; simpa [grB] using this))
    have hs := grp_ok ok (by omega) hG
    have T := groups_tr ok nar hs
    refine .inl ⟨by simp [hB0], grA V, grB V, rfl, hs, ?_⟩
    have hspn : (sPL (grA V) (grB V)).lefts.length = n := by simp [sPL, grA]; omega
    refine for_lstN ⟨_, rfl, grA V, grB V, rfl, hs, fun e1 ie1 ne1 be1 => ⟨_, rfl, ?_⟩⟩
    have he1 : e1.length = n := by rw [ie1.len, hspn]
    refine ⟨e1, by rw [he1], by omega, ⟨_, rfl, V, rfl, ok, fun o1 io1 no1 bo1 => ⟨by simp, ?_⟩⟩⟩
    refine ⟨_, rfl, grA V, grB V, rfl, hs, fun e2 ie2 ne2 we2 => ⟨_, rfl, ?_⟩⟩
    have he2 : e2.length = n := by rw [ie2.len, hspn]
    refine ⟨e2, by rw [he2], by omega, ⟨_, rfl, V, rfl, ok, fun o2 io2 no2 wo2 => ⟨by simp, by simp, _, rfl, by simp, ?_⟩⟩⟩
    have eo1 : o1 = e1.map (Option.map (phiG V)) := tr_best T ok (sPL_ok hs) io1 no1 bo1 ie1 ne1 be1
    have eo2 : o2 = e2.map (Option.map (phiG V)) := tr_worst T ok (sPL_ok hs) io2 no2 wo2 ie2 ne2 we2
    refine ⟨fun i ε => ∃ (x13 x14 : Sl), ε = [Sl.val Dat.cell, Sl.val (Dat.bl named), Sl.val (nD n), Sl.val (nD m), Sl.val (rks V.lefts), Sl.val (rks V.rights), Sl.val (Dat.tup (List.map nD V.groups)), Sl.val (Dat.tup (List.map rk V.limits)), Sl.val (Dat.obj g.C_Places (fsP V)), Sl.val (Dat.lst (List.map pairD (numsG V))), Sl.val (Dat.tup (List.map rk (grA V))), Sl.val (Dat.tup (List.map rk (grB V))), Sl.val (Dat.obj g.C_Sides (fsS (grA V) (grB V))), x13, x14, Sl.off, Sl.off, Sl.off, Sl.off, Sl.off], ⟨_, _, rfl⟩, fun i d ε hd ⟨x13, x14, hε⟩ => ?_, fun ε ⟨x13, x14, hε⟩ => ?_⟩
    · obtain ⟨e, o, rfl, he, heo, ie⟩ : ∃ e o, d = .tup [outD e, outD o] ∧ e.length = n ∧ o = e.map (Option.map (phiG V)) ∧ IsOut (sPL (grA V) (grB V)) e := by
        match i, hd with
        | 0, hd => cases hd; exact ⟨e1, o1, rfl, he1, eo1, ie1⟩
        | 1, hd => cases hd; exact ⟨e2, o2, rfl, he2, eo2, ie2⟩
      subst hε
      simp
      refine DL.lc_tup e oD (fun x => some (oD (x.map (phiG V)))) (fun P h => ⟨_, rfl, h⟩) (by omega) (fun x hx R hR => ?_) ?_
      · cases x with
        | none => simp [oD]; exact .inr ⟨rfl, hR⟩
        | some s =>
          obtain ⟨l, hl, hls⟩ := mem_oat hx
          have hsl := (ie.fit l s hls (by rw [hspn]; omega)).1
          simp
          refine .inl ⟨rfl, ?_⟩
          have hsl2 : s < (numsG V).length := by simpa [sPL, grB] using hsl
          have e1 : (numsG V)[s]? = some (numsG V)[s] := List.getElem?_eq_getElem hsl2
          show ∃ d, atI (List.map pairD (numsG V)) ((s : Nat) : Int) = some d ∧ _
          refine ⟨pairD (numsG V)[s], atI_nat (by rw [List.getElem?_map, e1]; rfl), nD (numsG V)[s].1, rfl, ?_⟩
          have e2 : phiG V s = (numsG V)[s].1 := by
            unfold phiG
            rw [e1]
            rfl
          rw [← e2]
          exact hR
      · rw [fm_map]
        refine tup_in (.inl ⟨outD o, ?_, good_out (by rw [heo]; simp; omega), .inr rfl⟩)
        rw [heo]
        simp [outD]
    · subst hε
      simp
      exact hQ
end
end K90
set_option maxRecDepth 100000
set_option maxHeartbeats 4000000
namespace K90
open PySem PySem.Spec PyProof.Rows L2 RZ DL
open C8 (call_isC pe_gc InsC)
open M90
section
variable {P : Program} {w : World} {K : PySem.W.Frag} {mg : Str → Option Value} {base : Heap}
def spCell (K : PySem.W.Frag) : Sp := fun vs H Q _ => ∃ (a : Addr) (ns : List Int) (k : Nat), vs = [.ref a, .int k] ∧ SqL K H a (ns.map V.int) ∧ k ≤ 100 ∧ ∀ z H', Ex H H' → Q (.int z) H'
theorem ok_cell (g : Fx K mg) : FnOk P w K mg base L2.CX0 1 g.f__law_cell g.fd__law_cell P__law_cell (spCell K) := by
  refine g.F__law_cell.ok sc__law_cell (fun vs H Q E ⟨a, ns, k, e, _⟩ => by rw [e]; rfl) (fun cdv A outer s H vs Q E hr ⟨a, ns, k, e, hS, hk, hQ⟩ => ⟨_, PSs.nox (pss_one (ps_ret (pe_ifExp (pt_cmpR op_lt (pv 1) (pe_callB call_lenA (by rfl) g.b_len boot_len (pa_cons (pv 0) pa_nil)) (nomark _))
    (pe_ix ix_list (pv 0) (pv 1) (fun _ _ => rfl)) (pe_op op_add (pe_op op_mul pe_int (pv 1)) (pe_op op_mod (pe_callTy call_int1 (by rfl) g.b_int boot_int (pa_cons (pe_callB (cr_sum rfl) (by rfl) g.b_sum boot_sum (pa_cons (pe_slice sl_list (pv 0) po_none (po_some pe_int)) pa_nil)) pa_nil)) pe_int))))), ?_⟩)
  subst e
  refine ⟨_, rfl, _, rfl, .inl ⟨a, _, rfl, .inl hS, _, _, rfl, rfl, _, rfl, ?_⟩⟩
  rw [List.length_map]
  by_cases h : (k : Int) < ns.length
  · rw [decide_eq_true h]
    have hk2 : k < ns.length := by omega
    exact ⟨_, rfl, _, rfl, a, _, (k : Int), .int ns[k], rfl, rfl, hS, atI_nat (by rw [List.getElem?_map, List.getElem?_eq_getElem hk2]; rfl), hQ _ H (Ex.refl H)⟩
  · rw [decide_eq_false h]
    refine ⟨_, rfl, _, _, rfl, rfl, .inl (by omega), ?_⟩
    refine ⟨_, rfl, 1, rfl, a, _, rfl, hS, fun p hp => ?_⟩
    have e1 : cutV (ns.map V.int) none (some 1) = (ns.take 1).map V.int := by
      have := cutT (ns.map V.int) 1
      rw [List.map_take]
      exact this
    rw [e1]
    exact ⟨p, _, rfl, SqL.of upd_same, .inl ⟨_, rfl, _, _, rfl, rfl, (show (0 : Int) < 1000003 by decide), _, _, rfl, rfl, hQ _ _ (Ex.new hp)⟩⟩
def spBox : Sp := fun vs H Q _ => ∃ z : Int, vs = [.int z] ∧ ∀ p ws, H p = none → BoxV ws 0 → Q (.ref p) (upd H p (.lst ws))
theorem ok_box (g : Fx K mg) : FnOk P w K mg base L2.CX0 1 g.f__law_box g.fd__law_box P__law_box spBox := by
  have ab : ∀ X : Cx, True := fun _ => trivial
  refine g.F__law_box.ok sc__law_box (fun vs H Q E ⟨z, e, _⟩ => by rw [e]; rfl) (fun cdv A outer s H vs Q E hr ⟨z, e, hQ⟩ => ⟨_, PSs.nox (pss_one (ps_ret (pe_lst (pa_cons (pe_callB call_abs (by rfl) g.b_abs boot_abs (pa_cons (pv 0) pa_nil)) (pa_cons (pe_cmpR op_ge (pe_callB call_abs (by rfl) g.b_abs boot_abs (pa_cons (pv 0) pa_nil)) (pe_op op_pow pe_int pe_int) (nomark _))
    (pa_cons (pe_op op_mod (pe_callTy call_int1 (by rfl) g.b_int boot_int (pa_cons (pe_callB call_abs (by rfl) g.b_abs boot_abs (pa_cons (pv 0) pa_nil)) pa_nil)) pe_int) (pa_cons pe_int pa_nil))))))), ?_⟩)
  subst e
  refine ⟨_, rfl, _, rfl, _, rfl, _, rfl, _, _, rfl, rfl, ⟨by decide, by decide, by decide⟩, _, _, rfl, rfl, _, rfl, _, rfl, .inl ⟨_, rfl, _, _, rfl, rfl, (show (0 : Int) < 2147483629 by decide), ?_⟩⟩
  have m0 : 0 ≤ (if z < 0 then -z else z) % 2147483629 := Int.emod_nonneg _ (by omega)
  have m1 : (if z < 0 then -z else z) % 2147483629 < 2147483629 := Int.emod_lt_of_pos _ (by omega)
  exact ⟨by show 4 ≤ sizeLine; rw [sizeLine_eq]; omega, fun p hp => hQ p _ hp ⟨_, _, _, _, rfl, by split <;> omega, m0, by omega, by omega, by omega⟩⟩
def spLaw (K : PySem.W.Frag) : Sp := fun vs H Q _ => ∃ (a : Addr) (ns : List Int), vs = [.ref a] ∧ SqL K H a (ns.map V.int) ∧ ns.length ≤ 63 ∧ ∀ H', Q (.bl true) H'
theorem ok_law (g : Fx K mg) : FnOk P w K mg base L2.CX0 10 g.f_law g.fd_law P_law (spLaw K) := by
  refine g.F_law.ok sc_law (fun vs H Q E ⟨a, ns, e, _⟩ => by rw [e]; rfl) (fun cdv A outer s H vs Q E hr ⟨a, ns, e, hS, hn, hQ⟩ => ?_)
  have nd := (sc_law).nd
  refine ⟨_, PSs.nox (pss_cons (ps_for PassesOwn.never rfl (pi_range1 (by rfl) g.b_range (pa_cons (pe_callB (call_max2 rfl) (by rfl) g.b_max boot_max (pa_cons pe_int (pa_cons (pe_callB (call_min2 rfl) (by rfl) g.b_min boot_min (pa_cons pe_int (pa_cons (pe_callB call_lenA (by rfl) g.b_len boot_len (pa_cons (pv 0) pa_nil)) pa_nil))) pa_nil))) pa_nil)) (pg_name (i := 1) nd rfl (.inl rfl))
    (pss_cons (ps_set (i := 2) nd rfl (.inl rfl) (pe_call (ok_box g) (hr.mono (by decide)) (by rfl) g.g__law_box g.F__law_box.kp (b__law_box g) .nil pass0 (pa_cons (pe_call (ok_cell g) (hr.mono (by decide)) (by rfl) g.g__law_cell g.F__law_cell.kp (b__law_cell g) .nil pass0 (pa_cons (pv 0) (pa_cons (pv 1) pa_nil))) pa_nil)))
      (SDs.cost (c1 := 100000000) (sds_cons (sd_asg (i := 3) (pd_cmp (op_eqD (ru0 hr)) od_eq ((pd_call (ok__law_take g) (hr.mono (by decide)) (by rfl) g.g__law_take g.F__law_take.kp (b__law_take g) (pad_cons (pd_var (pv 2)) (pad_cons pd_int pad_nil)))).toSh (pd_int).toSh (nomark _)) nd rfl (.inl rfl)) (sds_cons (sd_for 4 PassesOwn.never rfl (pid_range1 (by rfl) g.b_range (pad_cons pd_int pad_nil)) (pgd_name (i := 4) nd rfl (.inl rfl)) (sds_cons (sd_if ((pwd_or (ptd_not (ptd_val (pd_call (ok__law_seats_right g) (hr.mono (by decide)) (by rfl) g.g__law_seats_right g.F__law_seats_right.kp (b__law_seats_right g) (pad_cons (pd_var (pv 2)) (pad_cons (pd_var (pv 3)) pad_nil))))) (pwd_or (ptd_not (ptd_val (pd_call (ok__law_groups_right g) (hr.mono (by decide)) (by rfl) g.g__law_groups_right g.F__law_groups_right.kp (b__law_groups_right g) (pad_cons (pd_var (pv 2)) (pad_cons (pd_not (pd_var (pv 3))) pad_nil))))) (pwd_or1 (ptd_not (ptd_val (pd_call (ok__law_more_right g) (hr.mono (by decide)) (by rfl) g.g__law_more_right g.F__law_more_right.kp (b__law_more_right g) (pad_cons (pd_var (pv 2)) (pad_cons (pd_var (pv 3)) pad_nil))))))))).pt (sds_cons (sd_ret pd_bl) sds_nil) sds_nil) (sds_cons (sd_asg (i := 3) (pd_not (pd_var (pv 3))) nd rfl (.inl rfl)) sds_nil))) sds_nil)) (by decide)))) (pss_one (ps_ret pe_bl))), ?_⟩
  subst e
  refine ⟨_, rfl, .inl ⟨a, _, rfl, .inl hS, 3, (ns.map V.int).length, rfl, 1, _, rfl, _, rfl, ?_, ?_, ?_⟩⟩
  · split <;> split <;> omega
  · split <;> split <;> omega
  have hj : ∀ x : Int, x ≤ 3 → (if x > 1 then x else 1).toNat ≤ 3 := fun x hx => by split <;> omega
  have hj3 := hj (if ((ns.map V.int).length : Int) < 3 then ((ns.map V.int).length : Int) else 3) (by split <;> omega)
  refine for_range (fun i σ H' => σ.length = 5 ∧ σ[0]? = some (some (.ref a)) ∧ Ex H H') ⟨rfl, rfl, Ex.refl H⟩ (fun i σ H1 hi ⟨hl, h0, ex⟩ => ?_) (fun σ H1 _ => hQ H1)
  refine ⟨.ref a, by rw [List.getElem?_set_ne (by decide)]; exact h0, .int (0 + (i : Int)), List.getElem?_set_self (by omega), a, ns, i, by simp, Same.seq ex hS, by omega, fun z H2 ex2 => ⟨z, rfl, fun p ws hp hb => ?_⟩⟩
  have kp : ∀ x o, H x = some o → x ≠ p ∧ upd H2 p (.lst ws) x = some o := fun x o hx => by
    have h2 := ex2 _ _ (ex _ _ hx)
    have ne : x ≠ p := fun e => by rw [e, hp] at h2; cases h2
    exact ⟨ne, by rw [upd_ne ne]; exact h2⟩
  refine ⟨fun x => upd H2 p (.lst ws) x = none, some p, fun _ => none, [.raw (.ref a), .off, .val .cell, .off, .off], { nx := fun ε => ε.length = 5 ∧ ε[0]? = some (.raw (.ref a)), rt := fun _ => False }, 0, ?_, ?_, by unfold CAP; decide, ?_, fun F' H' σ' ε' g r h => ?_, fun _ _ _ _ _ _ h => h.elim, fun _ _ _ _ _ _ h => h.elim, fun _ _ _ _ _ _ h => h.elim⟩
  · refine ⟨(fun x o h => nomatch h), by simp [hl], fun j d h => ?_, fun j d h => ?_, fun j k d e q h => ?_, fun b hb2 => ?_, fun x h => h, fun j v h => ?_⟩
    · match j, h with
      | 2, h => cases h; exact ⟨.ref p, List.getElem?_set_self (by simp [hl]), .cell rfl⟩
      | 0, h => cases h
      | 1, h => cases h
      | 3, h => cases h
      | 4, h => cases h
      | j + 5, h => simp at h
    · match j, h with
      | 2, h => cases h
      | 0, h => cases h
      | 1, h => cases h
      | 3, h => cases h
      | 4, h => cases h
      | j + 5, h => simp at h
    · match j, h with
      | 2, h => cases h
      | 0, h => cases h
      | 1, h => cases h
      | 3, h => cases h
      | 4, h => cases h
      | j + 5, h => simp at h
    · cases hb2
      exact ⟨rfl, (fun e => by rw [upd_same] at e; cases e), _, upd_same⟩
    · match j, h with
      | 0, h => cases h; rw [List.getElem?_set_ne (by decide), List.getElem?_set_ne (by decide)]; exact h0
      | 2, h => cases h
      | 1, h => cases h
      | 3, h => cases h
      | 4, h => cases h
      | j + 5, h => simp at h
  · intro b hb2
    cases hb2
    exact ⟨ws, upd_same, hb⟩
  · simp
    refine take_in 2 rfl (by decide) (by decide) fun c hc => ⟨by simp, ?_⟩
    refine for_r1 (n := 2) (fun P h => h) (by omega) (by omega) (fun i ε => ∃ (b : Bool) (x4 : Sl), ε = [.raw (.ref a), .off, .val .cell, .val (.bl b), x4]) ⟨_, _, rfl⟩ (fun i ε hi ⟨b, x4, hε⟩ => ?_) (fun ε ⟨b, x4, hε⟩ => ?_)
    · subst hε
      simp
      refine ⟨b, rfl, rfl, ?_⟩
      cases b with
      | false => exact .inl ⟨rfl, true, rfl, rfl, false, rfl, rfl⟩
      | true => exact .inr ⟨rfl, false, rfl, rfl, true, rfl, rfl⟩
    · subst hε
      exact ⟨rfl, rfl⟩
  · refine ⟨by rw [← r.len]; exact h.1, r.raw 0 _ h.2, fun x o hx => ?_⟩
    obtain ⟨k1, k2⟩ := kp x o hx
    exact g.keep x o k2 (fun e => k1 (Option.some.inj e).symm) (fun e : upd H2 p (.lst ws) x = none => by rw [k2] at e; cases e)
end
end K90
set_option maxRecDepth 100000
set_option maxHeartbeats 0
namespace K90
open PySem PySem.Spec PyProof.Rows L2 RZ C8 DL
/-! the head: facts by names, the run of the top -/
def insB (K : PySem.W.Frag) (C : Addr) : Bool := He.eqO (PySem.W.findIn K (.ref C) "__class__") (some (some (.builtin "object.__class__"))) && (He.eqO (PySem.W.specialIn K (.builtin "object.__class__") "__get__") (some (some (.builtin "getset_descriptor.__get__"))) &&
  (decide (PySem.W.takesIn K (.builtin "object.__class__") = some true) && (decide (PySem.W.mroIn K C (.type "object") = some true) && decide (PySem.W.kitOne K (.ref C) (.ref C) = some true))))
theorem insB_ok {K : PySem.W.Frag} {C : Addr} (cl : Cls K C) (h : insB K C = true) : InsC K C := by
  obtain ⟨h1, h⟩ := He.ba h
  obtain ⟨h2, h⟩ := He.ba h
  obtain ⟨h3, h⟩ := He.ba h
  obtain ⟨h4, h5⟩ := He.ba h
  exact ⟨cl, He.eqO_ok h1, He.eqO_ok h2, of_decide_eq_true h3, of_decide_eq_true h4, of_decide_eq_true h5⟩
def obsX (fa : List He.Fa) (fn : List He.DefD) (cs : List Str) (K : PySem.W.Frag) : He.AlD := (((fa.all fun f => f.ok K) && fn.all fun d => d.ok K) && cs.all fun x => insB K (He.ga K x), fn.map fun d => He.fnW K d.at_)
def SaysX (fa : List He.Fa) (fn : List He.DefD) (cs : List Str) (K : PySem.W.Frag) : Prop := obsX fa fn cs K = He.valD fn
def obsXG (n : Nat) (fa : List He.Fa) (fn : List He.DefD) (cs : List Str) (g : Addr → Option Obj) : He.AlD := obsX fa fn cs (He.frG g (He.asD g n))
def hookX (n : Nat) (fa : List He.Fa) (fn : List He.DefD) (cs : List Str) : PySem.W.Hook where
  α := He.AlD
  obs := fun s => obsXG n fa fn cs s.heap.get?
  val := fun _ => He.valD fn
  says := fun _ h => ∃ K : PySem.W.Frag, K.In h ∧ SaysX fa fn cs K
  of := fun _ _ e => ⟨_, He.frG_in, e⟩
  keeps := fun _ _ _ ⟨K, hK, c⟩ k => ⟨K, PySem.W.Frag.In.keeps hK k, c⟩
theorem obsXG_eq {n : Nat} {fa : List He.Fa} {fn : List He.DefD} {cs : List Str} {g : Addr → Option Obj} {s : Shared} (h : ∀ a, g a = s.heap.get? a) : obsXG n fa fn cs g = (hookX n fa fn cs).obs s := by
  have e : g = s.heap.get? := funext h
  rw [e] <;> rfl
section
variable {fa : List He.Fa} {fn : List He.DefD} {cs : List Str} {K : PySem.W.Frag}
theorem SaysX.one (c : SaysX fa fn cs K) : ((fa.all fun f => f.ok K) && fn.all fun d => d.ok K) = true ∧ (cs.all fun x => insB K (He.ga K x)) = true := He.ba (show (((fa.all fun f => f.ok K) && fn.all fun d => d.ok K) && cs.all fun x => insB K (He.ga K x)) = true from congrArg (fun z : He.AlD => z.1) c)
theorem SaysX.toD (c : SaysX fa fn cs K) : He.SaysD fa fn K := by
  have h1 := c.one.1
  have h2 : fn.map (fun d => He.fnW K d.at_) = fn.map He.DefD.val := congrArg (fun z : He.AlD => z.2) c
  exact Prod.ext h1 h2
theorem SaysX.fact (c : SaysX fa fn cs K) (i : Nat) {f : He.Fa} (h : fa[i]? = some f := by rfl) : f.ok K = true := c.toD.fact i h
theorem SaysX.def_ (c : SaysX fa fn cs K) (i : Nat) {d : He.DefD} (h : fn[i]? = some d := by rfl) : ∃ fd, FunD K d.name d.qual d.params d.body d.scope (d.dvs K) (d.kws K) (He.fAd K d.at_) fd := c.toD.def_ i h
theorem SaysX.ins (c : SaysX fa fn cs K) (i : Nat) {x : Str} (h : cs[i]? = some x) (cl : Cls K (He.ga K x)) : InsC K (He.ga K x) := insB_ok cl (List.all_eq_true.mp c.one.2 x (List.mem_of_getElem? h))
end
def d_0 : He.DefD := ⟨("is_whole", none), "is_whole", "is_whole", defArgs s_is_whole, defBody s_is_whole, defScope s_is_whole, [], []⟩
def d_1 : He.DefD := ⟨("is_below", none), "is_below", "is_below", defArgs s_is_below, defBody s_is_below, defScope s_is_below, [], []⟩
def d_2 : He.DefD := ⟨("is_ranking", none), "is_ranking", "is_ranking", defArgs s_is_ranking, defBody s_is_ranking, defScope s_is_ranking, [], []⟩
def d_3 : He.DefD := ⟨("are_rankings", none), "are_rankings", "are_rankings", defArgs s_are_rankings, defBody s_are_rankings, defScope s_are_rankings, [], []⟩
def d_4 : He.DefD := ⟨("check_rankings", none), "check_rankings", "check_rankings", defArgs s_check_rankings, defBody s_check_rankings, defScope s_check_rankings, [], []⟩
def d_5 : He.DefD := ⟨("check_sides", none), "check_sides", "check_sides", defArgs s_check_sides, defBody s_check_sides, defScope s_check_sides, [], []⟩
def d_6 : He.DefD := ⟨("does_fit", none), "does_fit", "does_fit", defArgs s_does_fit, defBody s_does_fit, defScope s_does_fit, [], []⟩
def d_7 : He.DefD := ⟨("is_above", none), "is_above", "is_above", defArgs s_is_above, defBody s_is_above, defScope s_is_above, [], []⟩
def d_8 : He.DefD := ⟨("offered", none), "offered", "offered", defArgs s_offered, defBody s_offered, defScope s_offered, [], []⟩
def d_9 : He.DefD := ⟨("lefts_best", none), "lefts_best", "lefts_best", defArgs s_lefts_best, defBody s_lefts_best, defScope s_lefts_best, [], []⟩
def d_10 : He.DefD := ⟨("rights_best", none), "rights_best", "rights_best", defArgs s_rights_best, defBody s_rights_best, defScope s_rights_best, [], []⟩
def d_11 : He.DefD := ⟨("best_for_lefts", none), "best_for_lefts", "best_for_lefts", defArgs s_best_for_lefts, defBody s_best_for_lefts, defScope s_best_for_lefts, [], []⟩
def d_12 : He.DefD := ⟨("best_for_rights", none), "best_for_rights", "best_for_rights", defArgs s_best_for_rights, defBody s_best_for_rights, defScope s_best_for_rights, [], []⟩
def d_13 : He.DefD := ⟨("always_paired", none), "always_paired", "always_paired", defArgs s_always_paired, defBody s_always_paired, defScope s_always_paired, [], []⟩
def d_14 : He.DefD := ⟨("are_counts", none), "are_counts", "are_counts", defArgs s_are_counts, defBody s_are_counts, defScope s_are_counts, [], []⟩
def d_15 : He.DefD := ⟨("check_places", none), "check_places", "check_places", defArgs s_check_places, defBody s_check_places, defScope s_check_places, [], []⟩
def d_16 : He.DefD := ⟨("check_right", none), "check_right", "check_right", defArgs s_check_right, defBody s_check_right, defScope s_check_right, [], []⟩
def d_17 : He.DefD := ⟨("taken_of", none), "taken_of", "taken_of", defArgs s_taken_of, defBody s_taken_of, defScope s_taken_of, [], []⟩
def d_18 : He.DefD := ⟨("members_of", none), "members_of", "members_of", defArgs s_members_of, defBody s_members_of, defScope s_members_of, [], []⟩
def d_19 : He.DefD := ⟨("is_outcome", none), "is_outcome", "is_outcome", defArgs s_is_outcome, defBody s_is_outcome, defScope s_is_outcome, [], []⟩
def d_20 : He.DefD := ⟨("blocks_in", none), "blocks_in", "blocks_in", defArgs s_blocks_in, defBody s_blocks_in, defScope s_blocks_in, [], []⟩
def d_21 : He.DefD := ⟨("blocking_seats", none), "blocking_seats", "blocking_seats", defArgs s_blocking_seats, defBody s_blocking_seats, defScope s_blocking_seats, [], []⟩
def d_22 : He.DefD := ⟨("is_stable_outcome", none), "is_stable_outcome", "is_stable_outcome", defArgs s_is_stable_outcome, defBody s_is_stable_outcome, defScope s_is_stable_outcome, [], []⟩
def d_23 : He.DefD := ⟨("outcome_of", none), "outcome_of", "outcome_of", defArgs s_outcome_of, defBody s_outcome_of, defScope s_outcome_of, [], []⟩
def d_24 : He.DefD := ⟨("best_of", none), "best_of", "best_of", defArgs s_best_of, defBody s_best_of, defScope s_best_of, [], []⟩
def d_25 : He.DefD := ⟨("best_seats", none), "best_seats", "best_seats", defArgs s_best_seats, defBody s_best_seats, defScope s_best_seats, [], []⟩
def d_26 : He.DefD := ⟨("offers_of", none), "offers_of", "offers_of", defArgs s_offers_of, defBody s_offers_of, defScope s_offers_of, [], []⟩
def d_27 : He.DefD := ⟨("worst_of", none), "worst_of", "worst_of", defArgs s_worst_of, defBody s_worst_of, defScope s_worst_of, [], []⟩
def d_28 : He.DefD := ⟨("worst_seats", none), "worst_seats", "worst_seats", defArgs s_worst_seats, defBody s_worst_seats, defScope s_worst_seats, [], []⟩
def d_29 : He.DefD := ⟨("seated", none), "seated", "seated", defArgs s_seated, defBody s_seated, defScope s_seated, [], []⟩
def d_30 : He.DefD := ⟨("with_seat", none), "with_seat", "with_seat", defArgs s_with_seat, defBody s_with_seat, defScope s_with_seat, [], []⟩
def d_31 : He.DefD := ⟨("exchanged", none), "exchanged", "exchanged", defArgs s_exchanged, defBody s_exchanged, defScope s_exchanged, [], []⟩
def d_32 : He.DefD := ⟨("by_lie", none), "by_lie", "by_lie", defArgs s_by_lie, defBody s_by_lie, defScope s_by_lie, [], []⟩
def d_33 : He.DefD := ⟨("_law_cell", none), "_law_cell", "_law_cell", defArgs s__law_cell, defBody s__law_cell, defScope s__law_cell, [], []⟩
def d_34 : He.DefD := ⟨("_law_box", none), "_law_box", "_law_box", defArgs s__law_box, defBody s__law_box, defScope s__law_box, [], []⟩
def d_35 : He.DefD := ⟨("_law_take", none), "_law_take", "_law_take", defArgs s__law_take, defBody s__law_take, defScope s__law_take, [], []⟩
def d_36 : He.DefD := ⟨("_law_row", none), "_law_row", "_law_row", defArgs s__law_row, defBody s__law_row, defScope s__law_row, [], []⟩
def d_37 : He.DefD := ⟨("_law_same", none), "_law_same", "_law_same", defArgs s__law_same, defBody s__law_same, defScope s__law_same, [], []⟩
def d_38 : He.DefD := ⟨("_law_mixed", none), "_law_mixed", "_law_mixed", defArgs s__law_mixed, defBody s__law_mixed, defScope s__law_mixed, [], []⟩
def d_39 : He.DefD := ⟨("_law_rankings", none), "_law_rankings", "_law_rankings", defArgs s__law_rankings, defBody s__law_rankings, defScope s__law_rankings, [], []⟩
def d_40 : He.DefD := ⟨("_law_prefers", none), "_law_prefers", "_law_prefers", defArgs s__law_prefers, defBody s__law_prefers, defScope s__law_prefers, [], []⟩
def d_41 : He.DefD := ⟨("_law_blocks", none), "_law_blocks", "_law_blocks", defArgs s__law_blocks, defBody s__law_blocks, defScope s__law_blocks, [], []⟩
def d_42 : He.DefD := ⟨("_law_split", none), "_law_split", "_law_split", defArgs s__law_split, defBody s__law_split, defScope s__law_split, [], []⟩
def d_43 : He.DefD := ⟨("_law_seats_right", none), "_law_seats_right", "_law_seats_right", defArgs s__law_seats_right, defBody s__law_seats_right, defScope s__law_seats_right, [], []⟩
def d_44 : He.DefD := ⟨("_law_groups_right", none), "_law_groups_right", "_law_groups_right", defArgs s__law_groups_right, defBody s__law_groups_right, defScope s__law_groups_right, [], []⟩
def d_45 : He.DefD := ⟨("_law_more_right", none), "_law_more_right", "_law_more_right", defArgs s__law_more_right, defBody s__law_more_right, defScope s__law_more_right, [], []⟩
def d_46 : He.DefD := ⟨("law", none), "law", "law", defArgs s_law, defBody s_law, defScope s_law, [], []⟩
def d_47 : He.DefD := ⟨("Sides", some "__init__"), "__init__", ("Sides" ++ ".__init__" : String), defArgs si_Sides, defBody si_Sides, defScope si_Sides, [], []⟩
def d_48 : He.DefD := ⟨("Places", some "__init__"), "__init__", ("Places" ++ ".__init__" : String), defArgs si_Places, defBody si_Places, defScope si_Places, [], []⟩
def fnL : List He.DefD := [d_0, d_1, d_2, d_3, d_4, d_5, d_6, d_7, d_8, d_9, d_10, d_11, d_12, d_13, d_14, d_15, d_16, d_17, d_18, d_19, d_20, d_21, d_22, d_23, d_24, d_25, d_26, d_27, d_28, d_29, d_30, d_31, d_32, d_33, d_34, d_35, d_36, d_37, d_38, d_39, d_40, d_41, d_42, d_43, d_44, d_45, d_46, d_47, d_48]
def faL : List He.Fa := [.glo "is_whole", .glo "is_below", .glo "is_ranking", .glo "are_rankings", .glo "check_rankings", .glo "check_sides", .glo "does_fit", .glo "is_above", .glo "offered", .glo "lefts_best", .glo "rights_best", .glo "best_for_lefts", .glo "best_for_rights", .glo "always_paired", .glo "are_counts", .glo "check_places", .glo "check_right", .glo "taken_of", .glo "members_of", .glo "is_outcome", .glo "blocks_in", .glo "blocking_seats", .glo "is_stable_outcome", .glo "outcome_of", .glo "best_of", .glo "best_seats", .glo "offers_of", .glo "worst_of", .glo "worst_seats", .glo "seated", .glo "with_seat", .glo "exchanged", .glo "by_lie", .glo "_law_cell", .glo "_law_box", .glo "_law_take", .glo "_law_row", .glo "_law_same", .glo "_law_mixed", .glo "_law_rankings", .glo "_law_prefers", .glo "_law_blocks", .glo "_law_split", .glo "_law_seats_right", .glo "_law_groups_right", .glo "_law_more_right", .glo "law", .glo "Sides", .mkr "Sides", .cls "Sides", .noat "Sides" "lefts", .noat "Sides" "rights", .glo "Places", .mkr "Places", .cls "Places", .noat "Places" "lefts", .noat "Places" "rights", .noat "Places" "seats", .noat "Places" "groups", .noat "Places" "limits", .free "len", .free "int", .free "tuple", .free "list", .free "bool", .free "str", .free "dict", .free "set", .free "range", .free "enumerate", .free "zip", .free "max", .free "min", .free "sum", .free "sorted", .free "all", .free "isinstance", .free "abs", .int "MOST_MEMBERS" 20, .int "MOST_SEATS" 20, .int "GROUPS" 4]
def csL : List Str := ["Sides", "Places"]
abbrev Rw : PySem.W.OpenRow := PySem.W.OpenLaw.row PySem.Challenge.rw_thingsclear_k90_whole_seats_are_rights_o
abbrev hkL : PySem.W.Hook := hookX 5 faL fnL csL
def obL (s : PySem.W.SharedT) : He.AlD := obsXG 5 faL fnL csL (HandSHeadRun.getT s)
theorem obL_eq (s : PySem.W.SharedT) : obL s = hkL.obs s.abs := obsXG_eq (HandSHeadRun.getT_eq s)
abbrev qvL : Program := PySem.W.view Rw.prog [70]
def namesL : List PySem.Str := ((Rw.prog.main.scope.names.filter (fun p => p.2 == NameKind.local)).map (·.1)).filter (fun x => !(x == ("law" : PySem.Str) || x == ("__name__" : PySem.Str)))
theorem runL (w : World) : HandSHeadRun.RunEq Rw qvL hkL obL 6000 namesL w := by
  intro os
  kernel_rfl
theorem factsL {K : PySem.W.Frag} {h : Heap} {mg : Str → Option Value} (X : K.In h) (G : h.Ns mainGlobals mg) (c : SaysX faL fnL csL K) : ∃ g : Fx K mg, g.f_law = He.ga K "law" := by
  obtain ⟨fd_is_whole, F_is_whole⟩ := c.def_ 0 (d := d_0) rfl
  obtain ⟨fd_is_below, F_is_below⟩ := c.def_ 1 (d := d_1) rfl
  obtain ⟨fd_is_ranking, F_is_ranking⟩ := c.def_ 2 (d := d_2) rfl
  obtain ⟨fd_are_rankings, F_are_rankings⟩ := c.def_ 3 (d := d_3) rfl
  obtain ⟨fd_check_rankings, F_check_rankings⟩ := c.def_ 4 (d := d_4) rfl
  obtain ⟨fd_check_sides, F_check_sides⟩ := c.def_ 5 (d := d_5) rfl
  obtain ⟨fd_does_fit, F_does_fit⟩ := c.def_ 6 (d := d_6) rfl
  obtain ⟨fd_is_above, F_is_above⟩ := c.def_ 7 (d := d_7) rfl
  obtain ⟨fd_offered, F_offered⟩ := c.def_ 8 (d := d_8) rfl
  obtain ⟨fd_lefts_best, F_lefts_best⟩ := c.def_ 9 (d := d_9) rfl
  obtain ⟨fd_rights_best, F_rights_best⟩ := c.def_ 10 (d := d_10) rfl
  obtain ⟨fd_best_for_lefts, F_best_for_lefts⟩ := c.def_ 11 (d := d_11) rfl
  obtain ⟨fd_best_for_rights, F_best_for_rights⟩ := c.def_ 12 (d := d_12) rfl
  obtain ⟨fd_always_paired, F_always_paired⟩ := c.def_ 13 (d := d_13) rfl
  obtain ⟨fd_are_counts, F_are_counts⟩ := c.def_ 14 (d := d_14) rfl
  obtain ⟨fd_check_places, F_check_places⟩ := c.def_ 15 (d := d_15) rfl
  obtain ⟨fd_check_right, F_check_right⟩ := c.def_ 16 (d := d_16) rfl
  obtain ⟨fd_taken_of, F_taken_of⟩ := c.def_ 17 (d := d_17) rfl
  obtain ⟨fd_members_of, F_members_of⟩ := c.def_ 18 (d := d_18) rfl
  obtain ⟨fd_is_outcome, F_is_outcome⟩ := c.def_ 19 (d := d_19) rfl
  obtain ⟨fd_blocks_in, F_blocks_in⟩ := c.def_ 20 (d := d_20) rfl
  obtain ⟨fd_blocking_seats, F_blocking_seats⟩ := c.def_ 21 (d := d_21) rfl
  obtain ⟨fd_is_stable_outcome, F_is_stable_outcome⟩ := c.def_ 22 (d := d_22) rfl
  obtain ⟨fd_outcome_of, F_outcome_of⟩ := c.def_ 23 (d := d_23) rfl
  obtain ⟨fd_best_of, F_best_of⟩ := c.def_ 24 (d := d_24) rfl
  obtain ⟨fd_best_seats, F_best_seats⟩ := c.def_ 25 (d := d_25) rfl
  obtain ⟨fd_offers_of, F_offers_of⟩ := c.def_ 26 (d := d_26) rfl
  obtain ⟨fd_worst_of, F_worst_of⟩ := c.def_ 27 (d := d_27) rfl
  obtain ⟨fd_worst_seats, F_worst_seats⟩ := c.def_ 28 (d := d_28) rfl
  obtain ⟨fd_seated, F_seated⟩ := c.def_ 29 (d := d_29) rfl
  obtain ⟨fd_with_seat, F_with_seat⟩ := c.def_ 30 (d := d_30) rfl
  obtain ⟨fd_exchanged, F_exchanged⟩ := c.def_ 31 (d := d_31) rfl
  obtain ⟨fd_by_lie, F_by_lie⟩ := c.def_ 32 (d := d_32) rfl
  obtain ⟨fd__law_cell, F__law_cell⟩ := c.def_ 33 (d := d_33) rfl
  obtain ⟨fd__law_box, F__law_box⟩ := c.def_ 34 (d := d_34) rfl
  obtain ⟨fd__law_take, F__law_take⟩ := c.def_ 35 (d := d_35) rfl
  obtain ⟨fd__law_row, F__law_row⟩ := c.def_ 36 (d := d_36) rfl
  obtain ⟨fd__law_same, F__law_same⟩ := c.def_ 37 (d := d_37) rfl
  obtain ⟨fd__law_mixed, F__law_mixed⟩ := c.def_ 38 (d := d_38) rfl
  obtain ⟨fd__law_rankings, F__law_rankings⟩ := c.def_ 39 (d := d_39) rfl
  obtain ⟨fd__law_prefers, F__law_prefers⟩ := c.def_ 40 (d := d_40) rfl
  obtain ⟨fd__law_blocks, F__law_blocks⟩ := c.def_ 41 (d := d_41) rfl
  obtain ⟨fd__law_split, F__law_split⟩ := c.def_ 42 (d := d_42) rfl
  obtain ⟨fd__law_seats_right, F__law_seats_right⟩ := c.def_ 43 (d := d_43) rfl
  obtain ⟨fd__law_groups_right, F__law_groups_right⟩ := c.def_ 44 (d := d_44) rfl
  obtain ⟨fd__law_more_right, F__law_more_right⟩ := c.def_ 45 (d := d_45) rfl
  obtain ⟨fd_law, F_law⟩ := c.def_ 46 (d := d_46) rfl
  obtain ⟨fdi_Sides, Fi_Sides⟩ := c.def_ 47 (d := d_47) rfl
  obtain ⟨fdi_Places, Fi_Places⟩ := c.def_ 48 (d := d_48) rfl
  exact ⟨{
    f_is_whole := He.fAd K ("is_whole", none)
    fd_is_whole := fd_is_whole
    F_is_whole := F_is_whole
    g_is_whole := He.glo_ok X G (c.fact 0 (f := .glo "is_whole") rfl)
    f_is_below := He.fAd K ("is_below", none)
    fd_is_below := fd_is_below
    F_is_below := F_is_below
    g_is_below := He.glo_ok X G (c.fact 1 (f := .glo "is_below") rfl)
    f_is_ranking := He.fAd K ("is_ranking", none)
    fd_is_ranking := fd_is_ranking
    F_is_ranking := F_is_ranking
    g_is_ranking := He.glo_ok X G (c.fact 2 (f := .glo "is_ranking") rfl)
    f_are_rankings := He.fAd K ("are_rankings", none)
    fd_are_rankings := fd_are_rankings
    F_are_rankings := F_are_rankings
    g_are_rankings := He.glo_ok X G (c.fact 3 (f := .glo "are_rankings") rfl)
    f_check_rankings := He.fAd K ("check_rankings", none)
    fd_check_rankings := fd_check_rankings
    F_check_rankings := F_check_rankings
    g_check_rankings := He.glo_ok X G (c.fact 4 (f := .glo "check_rankings") rfl)
    f_check_sides := He.fAd K ("check_sides", none)
    fd_check_sides := fd_check_sides
    F_check_sides := F_check_sides
    g_check_sides := He.glo_ok X G (c.fact 5 (f := .glo "check_sides") rfl)
    f_does_fit := He.fAd K ("does_fit", none)
    fd_does_fit := fd_does_fit
    F_does_fit := F_does_fit
    g_does_fit := He.glo_ok X G (c.fact 6 (f := .glo "does_fit") rfl)
    f_is_above := He.fAd K ("is_above", none)
    fd_is_above := fd_is_above
    F_is_above := F_is_above
    g_is_above := He.glo_ok X G (c.fact 7 (f := .glo "is_above") rfl)
    f_offered := He.fAd K ("offered", none)
    fd_offered := fd_offered
    F_offered := F_offered
    g_offered := He.glo_ok X G (c.fact 8 (f := .glo "offered") rfl)
    f_lefts_best := He.fAd K ("lefts_best", none)
    fd_lefts_best := fd_lefts_best
    F_lefts_best := F_lefts_best
    g_lefts_best := He.glo_ok X G (c.fact 9 (f := .glo "lefts_best") rfl)
    f_rights_best := He.fAd K ("rights_best", none)
    fd_rights_best := fd_rights_best
    F_rights_best := F_rights_best
    g_rights_best := He.glo_ok X G (c.fact 10 (f := .glo "rights_best") rfl)
    f_best_for_lefts := He.fAd K ("best_for_lefts", none)
    fd_best_for_lefts := fd_best_for_lefts
    F_best_for_lefts := F_best_for_lefts
    g_best_for_lefts := He.glo_ok X G (c.fact 11 (f := .glo "best_for_lefts") rfl)
    f_best_for_rights := He.fAd K ("best_for_rights", none)
    fd_best_for_rights := fd_best_for_rights
    F_best_for_rights := F_best_for_rights
    g_best_for_rights := He.glo_ok X G (c.fact 12 (f := .glo "best_for_rights") rfl)
    f_always_paired := He.fAd K ("always_paired", none)
    fd_always_paired := fd_always_paired
    F_always_paired := F_always_paired
    g_always_paired := He.glo_ok X G (c.fact 13 (f := .glo "always_paired") rfl)
    f_are_counts := He.fAd K ("are_counts", none)
    fd_are_counts := fd_are_counts
    F_are_counts := F_are_counts
    g_are_counts := He.glo_ok X G (c.fact 14 (f := .glo "are_counts") rfl)
    f_check_places := He.fAd K ("check_places", none)
    fd_check_places := fd_check_places
    F_check_places := F_check_places
    g_check_places := He.glo_ok X G (c.fact 15 (f := .glo "check_places") rfl)
    f_check_right := He.fAd K ("check_right", none)
    fd_check_right := fd_check_right
    F_check_right := F_check_right
    g_check_right := He.glo_ok X G (c.fact 16 (f := .glo "check_right") rfl)
    f_taken_of := He.fAd K ("taken_of", none)
    fd_taken_of := fd_taken_of
    F_taken_of := F_taken_of
    g_taken_of := He.glo_ok X G (c.fact 17 (f := .glo "taken_of") rfl)
    f_members_of := He.fAd K ("members_of", none)
    fd_members_of := fd_members_of
    F_members_of := F_members_of
    g_members_of := He.glo_ok X G (c.fact 18 (f := .glo "members_of") rfl)
    f_is_outcome := He.fAd K ("is_outcome", none)
    fd_is_outcome := fd_is_outcome
    F_is_outcome := F_is_outcome
    g_is_outcome := He.glo_ok X G (c.fact 19 (f := .glo "is_outcome") rfl)
    f_blocks_in := He.fAd K ("blocks_in", none)
    fd_blocks_in := fd_blocks_in
    F_blocks_in := F_blocks_in
    g_blocks_in := He.glo_ok X G (c.fact 20 (f := .glo "blocks_in") rfl)
    f_blocking_seats := He.fAd K ("blocking_seats", none)
    fd_blocking_seats := fd_blocking_seats
    F_blocking_seats := F_blocking_seats
    g_blocking_seats := He.glo_ok X G (c.fact 21 (f := .glo "blocking_seats") rfl)
    f_is_stable_outcome := He.fAd K ("is_stable_outcome", none)
    fd_is_stable_outcome := fd_is_stable_outcome
    F_is_stable_outcome := F_is_stable_outcome
    g_is_stable_outcome := He.glo_ok X G (c.fact 22 (f := .glo "is_stable_outcome") rfl)
    f_outcome_of := He.fAd K ("outcome_of", none)
    fd_outcome_of := fd_outcome_of
    F_outcome_of := F_outcome_of
    g_outcome_of := He.glo_ok X G (c.fact 23 (f := .glo "outcome_of") rfl)
    f_best_of := He.fAd K ("best_of", none)
    fd_best_of := fd_best_of
    F_best_of := F_best_of
    g_best_of := He.glo_ok X G (c.fact 24 (f := .glo "best_of") rfl)
    f_best_seats := He.fAd K ("best_seats", none)
    fd_best_seats := fd_best_seats
    F_best_seats := F_best_seats
    g_best_seats := He.glo_ok X G (c.fact 25 (f := .glo "best_seats") rfl)
    f_offers_of := He.fAd K ("offers_of", none)
    fd_offers_of := fd_offers_of
    F_offers_of := F_offers_of
    g_offers_of := He.glo_ok X G (c.fact 26 (f := .glo "offers_of") rfl)
    f_worst_of := He.fAd K ("worst_of", none)
    fd_worst_of := fd_worst_of
    F_worst_of := F_worst_of
    g_worst_of := He.glo_ok X G (c.fact 27 (f := .glo "worst_of") rfl)
    f_worst_seats := He.fAd K ("worst_seats", none)
    fd_worst_seats := fd_worst_seats
    F_worst_seats := F_worst_seats
    g_worst_seats := He.glo_ok X G (c.fact 28 (f := .glo "worst_seats") rfl)
    f_seated := He.fAd K ("seated", none)
    fd_seated := fd_seated
    F_seated := F_seated
    g_seated := He.glo_ok X G (c.fact 29 (f := .glo "seated") rfl)
    f_with_seat := He.fAd K ("with_seat", none)
    fd_with_seat := fd_with_seat
    F_with_seat := F_with_seat
    g_with_seat := He.glo_ok X G (c.fact 30 (f := .glo "with_seat") rfl)
    f_exchanged := He.fAd K ("exchanged", none)
    fd_exchanged := fd_exchanged
    F_exchanged := F_exchanged
    g_exchanged := He.glo_ok X G (c.fact 31 (f := .glo "exchanged") rfl)
    f_by_lie := He.fAd K ("by_lie", none)
    fd_by_lie := fd_by_lie
    F_by_lie := F_by_lie
    g_by_lie := He.glo_ok X G (c.fact 32 (f := .glo "by_lie") rfl)
    f__law_cell := He.fAd K ("_law_cell", none)
    fd__law_cell := fd__law_cell
    F__law_cell := F__law_cell
    g__law_cell := He.glo_ok X G (c.fact 33 (f := .glo "_law_cell") rfl)
    f__law_box := He.fAd K ("_law_box", none)
    fd__law_box := fd__law_box
    F__law_box := F__law_box
    g__law_box := He.glo_ok X G (c.fact 34 (f := .glo "_law_box") rfl)
    f__law_take := He.fAd K ("_law_take", none)
    fd__law_take := fd__law_take
    F__law_take := F__law_take
    g__law_take := He.glo_ok X G (c.fact 35 (f := .glo "_law_take") rfl)
    f__law_row := He.fAd K ("_law_row", none)
    fd__law_row := fd__law_row
    F__law_row := F__law_row
    g__law_row := He.glo_ok X G (c.fact 36 (f := .glo "_law_row") rfl)
    f__law_same := He.fAd K ("_law_same", none)
    fd__law_same := fd__law_same
    F__law_same := F__law_same
    g__law_same := He.glo_ok X G (c.fact 37 (f := .glo "_law_same") rfl)
    f__law_mixed := He.fAd K ("_law_mixed", none)
    fd__law_mixed := fd__law_mixed
    F__law_mixed := F__law_mixed
    g__law_mixed := He.glo_ok X G (c.fact 38 (f := .glo "_law_mixed") rfl)
    f__law_rankings := He.fAd K ("_law_rankings", none)
    fd__law_rankings := fd__law_rankings
    F__law_rankings := F__law_rankings
    g__law_rankings := He.glo_ok X G (c.fact 39 (f := .glo "_law_rankings") rfl)
    f__law_prefers := He.fAd K ("_law_prefers", none)
    fd__law_prefers := fd__law_prefers
    F__law_prefers := F__law_prefers
    g__law_prefers := He.glo_ok X G (c.fact 40 (f := .glo "_law_prefers") rfl)
    f__law_blocks := He.fAd K ("_law_blocks", none)
    fd__law_blocks := fd__law_blocks
    F__law_blocks := F__law_blocks
    g__law_blocks := He.glo_ok X G (c.fact 41 (f := .glo "_law_blocks") rfl)
    f__law_split := He.fAd K ("_law_split", none)
    fd__law_split := fd__law_split
    F__law_split := F__law_split
    g__law_split := He.glo_ok X G (c.fact 42 (f := .glo "_law_split") rfl)
    f__law_seats_right := He.fAd K ("_law_seats_right", none)
    fd__law_seats_right := fd__law_seats_right
    F__law_seats_right := F__law_seats_right
    g__law_seats_right := He.glo_ok X G (c.fact 43 (f := .glo "_law_seats_right") rfl)
    f__law_groups_right := He.fAd K ("_law_groups_right", none)
    fd__law_groups_right := fd__law_groups_right
    F__law_groups_right := F__law_groups_right
    g__law_groups_right := He.glo_ok X G (c.fact 44 (f := .glo "_law_groups_right") rfl)
    f__law_more_right := He.fAd K ("_law_more_right", none)
    fd__law_more_right := fd__law_more_right
    F__law_more_right := F__law_more_right
    g__law_more_right := He.glo_ok X G (c.fact 45 (f := .glo "_law_more_right") rfl)
    f_law := He.fAd K ("law", none)
    fd_law := fd_law
    F_law := F_law
    g_law := He.glo_ok X G (c.fact 46 (f := .glo "law") rfl)
    C_Sides := He.ga K "Sides"
    fi_Sides := He.ma K (He.ga K "Sides") "__init__"
    fdi_Sides := fdi_Sides
    Fi_Sides := Fi_Sides
    g_Sides := He.glo_ok X G (c.fact 47 (f := .glo "Sides") rfl)
    M_Sides := He.mkr_ok (c.fact 48 (f := .mkr "Sides") rfl)
    cl_Sides := He.cls_ok (c.fact 49 (f := .cls "Sides") rfl)
    ins_Sides := c.ins 0 (x := "Sides") rfl (He.cls_ok (c.fact 49 (f := .cls "Sides") rfl))
    na_Sides_lefts := He.noat_ok (c.fact 50 (f := .noat "Sides" "lefts") rfl)
    na_Sides_rights := He.noat_ok (c.fact 51 (f := .noat "Sides" "rights") rfl)
    C_Places := He.ga K "Places"
    fi_Places := He.ma K (He.ga K "Places") "__init__"
    fdi_Places := fdi_Places
    Fi_Places := Fi_Places
    g_Places := He.glo_ok X G (c.fact 52 (f := .glo "Places") rfl)
    M_Places := He.mkr_ok (c.fact 53 (f := .mkr "Places") rfl)
    cl_Places := He.cls_ok (c.fact 54 (f := .cls "Places") rfl)
    ins_Places := c.ins 1 (x := "Places") rfl (He.cls_ok (c.fact 54 (f := .cls "Places") rfl))
    na_Places_lefts := He.noat_ok (c.fact 55 (f := .noat "Places" "lefts") rfl)
    na_Places_rights := He.noat_ok (c.fact 56 (f := .noat "Places" "rights") rfl)
    na_Places_seats := He.noat_ok (c.fact 57 (f := .noat "Places" "seats") rfl)
    na_Places_groups := He.noat_ok (c.fact 58 (f := .noat "Places" "groups") rfl)
    na_Places_limits := He.noat_ok (c.fact 59 (f := .noat "Places" "limits") rfl)
    b_len := He.free_ok X G (c.fact 60 (f := .free "len") rfl)
    b_int := He.free_ok X G (c.fact 61 (f := .free "int") rfl)
    b_tuple := He.free_ok X G (c.fact 62 (f := .free "tuple") rfl)
    b_list := He.free_ok X G (c.fact 63 (f := .free "list") rfl)
    b_bool := He.free_ok X G (c.fact 64 (f := .free "bool") rfl)
    b_str := He.free_ok X G (c.fact 65 (f := .free "str") rfl)
    b_dict := He.free_ok X G (c.fact 66 (f := .free "dict") rfl)
    b_set := He.free_ok X G (c.fact 67 (f := .free "set") rfl)
    b_range := He.free_ok X G (c.fact 68 (f := .free "range") rfl)
    b_enumerate := He.free_ok X G (c.fact 69 (f := .free "enumerate") rfl)
    b_zip := He.free_ok X G (c.fact 70 (f := .free "zip") rfl)
    b_max := He.free_ok X G (c.fact 71 (f := .free "max") rfl)
    b_min := He.free_ok X G (c.fact 72 (f := .free "min") rfl)
    b_sum := He.free_ok X G (c.fact 73 (f := .free "sum") rfl)
    b_sorted := He.free_ok X G (c.fact 74 (f := .free "sorted") rfl)
    b_all := He.free_ok X G (c.fact 75 (f := .free "all") rfl)
    b_isinstance := He.free_ok X G (c.fact 76 (f := .free "isinstance") rfl)
    b_abs := He.free_ok X G (c.fact 77 (f := .free "abs") rfl)
    i_MOST_MEMBERS := He.int_ok X G (c.fact 78 (f := .int "MOST_MEMBERS" 20) rfl)
    i_MOST_SEATS := He.int_ok X G (c.fact 79 (f := .int "MOST_SEATS" 20) rfl)
    i_GROUPS := He.int_ok X G (c.fact 80 (f := .int "GROUPS" 4) rfl) }, rfl⟩
end K90
set_option maxRecDepth 100000
set_option maxHeartbeats 0
open PySem PySem.W PySem.Calls PyProof.Rows
theorem PySem.Challenge.cw_thingsclear_k90_whole_seats_are_rights_o_holds : PySem.Challenge.rw_thingsclear_k90_whole_seats_are_rights_o.Holds := by
  w_on; o_law
  refine HandSHeadRun.head_any (r := OpenLaw.row PySem.Challenge.rw_thingsclear_k90_whole_seats_are_rights_o) (q := view (OpenLaw.row PySem.Challenge.rw_thingsclear_k90_whole_seats_are_rights_o).prog [70]) (H := K90.hkL) (ob := K90.obL) (M := 6000) (loose := K90.namesL) (d := HandSHeadRun.topDef (OpenLaw.row PySem.Challenge.rw_thingsclear_k90_whole_seats_are_rights_o).prog 70) (kwd := []) K90.obL_eq
    (by kernel_rfl) (fun s => by kernel_rfl) K90.runL (by kernel_rfl) (by kernel_rfl) (by kernel_rfl) (by rfl) (by first | assumption | decide +kernel) (by decide +kernel) ⟨rfl, rfl, rfl, rfl, rfl, by decide +kernel⟩ ?hw ?hc
  case hw => w_witness2
  case hc =>
    refine L2.walk_ofE (l := PySem.Challenge.rw_thingsclear_k90_whole_seats_are_rights_o) (n := 63) (k := 10) (x := "script") (CX := L2.CX0) rfl (by decide) (by kernel_rfl) ⟨rfl, by decide, by decide⟩ ?F (fun _ _ _ _ z => z)
    intro w mg fa h Y G hmg0
    obtain ⟨K, KX, c⟩ := Y
    have hmg : mg ("law" : PySem.Str) = some (.ref fa) := by
      have e : (HandSHeadRun.topDef (OpenLaw.row PySem.Challenge.rw_thingsclear_k90_whole_seats_are_rights_o).prog 70).name = ("law" : PySem.Str) := by kernel_rfl
      rw [← e]
      exact hmg0
    obtain ⟨g, _⟩ := K90.factsL KX G c
    have e := hmg.symm.trans g.g_law
    cases e
    have b := L2.FunD.bindsA (ps := ["script"]) g.F_law fun _ _ _ _ _ _ us hl => match us, hl with | [_], _ => rfl
    exact ⟨K, g.fd_law, K90.spLaw K, KX, fun s v => b s [v] rfl, fun H a ns hl _ hS => ⟨a, ns, rfl, hS, hl, fun _ => rfl⟩, fun base _ _ => K90.ok_law g⟩
