import PyProof.Rows.All
import Wide.All
import OpenK.AllK
import Wide.FinOn
import HandS.ForMost
import HandS.Walk
import HandS.Defaults
import HandS.Evl
import HandS.TupAny
import HandS.TupMul
import HandS.Conv
import HandS.Lambda
import HandS.Deep
import HandS.TupLe
import HandS.Star
import HandS.MakeKwOnly
import HandS.Codes
import KE.GoesEnum
import HandS.SetFor
import HandS.SortInts
import HandS.Strs
import HandS.Iter
import HandS.IsInst
import HandS.WordsDict
import HandS.Zip
import HandS.Style
import HandS.NoneIn
import HandS.Small
import HandS.Dict
import HandS.Words
import KE.KSortKey
import HandS.Keys
import HandS.SortKw
import HandS.HeadHook4
import KE.KStateDown
import Lean
import HandS.Head0
import HandS.Head1
import HandS.Head2
import HandS.HeadEnd
import HandS.HeadHook1
import HandS.HeadHook2
import HandS.HeadHook3
import HandS.EndTab
import HandS.HeadWalk
import PySem.Challenge.RW_thingsclear_k92_whole_nothing_left_and_n
set_option Elab.async false
set_option linter.all false
set_option maxRecDepth 100000
set_option maxHeartbeats 4000000
/-! DL0: tuples that are known to their object (it has no dict): their makers, calls of their methods. -/
namespace DL
open PySem PySem.Spec PyProof.Rows L2

/-- a known tuple -/
def KT (H : Hp) (a : Addr) (xs : List V) : Prop := ∃ o : Obj, H a = some (.frz o (.tup xs)) ∧ o.dict = none
theorem KT.sq {K : PySem.W.Frag} {H : Hp} {a : Addr} {xs : List V} (h : KT H a xs) : SqT K H a xs := by
  obtain ⟨o, h, _⟩ := h
  exact .inl (.inr ⟨o, h⟩)
/-- what is asked where a new tuple is made -/
def NewT (xs : List V) (H : Hp) (Q : VK) : Prop := ∀ (p : Addr) (o : Obj), o.dict = none → H p = none → Q (.ref p) (upd H p (.frz o (.tup xs)))
theorem laidT {X : Cx} {pins : List (Addr × Obj)} {σ : L2.St} {H : Hp} {s : Shared} {h' : Heap} {a : Addr} {t' : Nat} {xs : List V} {its : List Value} {Q : VK} (I : L2.Inv X pins σ H s) (k : ∀ b u, s.heap.get? b = some u → h'.get? b = some u) (hp : s.heap.objs.size ≤ a)
    (ho : h'.get? a = some { cls := .type "tuple", data := .seq its.toArray }) (r : Vals xs its) (hz : xs.length ≤ sizeLine) (q : NewT xs H Q) : EP X pins σ Q (.ref a) { s with heap := h', toks := t' } :=
  ⟨.ref a, _, I.laid k hp (o := .frz { cls := .type "tuple", data := .seq its.toArray } (.tup xs)) ⟨ho, hz, its, r, _, ho, rfl, _, rfl⟩, rfl, q a _ rfl (I.hok.fresh hp)⟩

section
variable {X : Cx} {e : Expr} {es : List Expr} {te : TE} {t : TA} {pos : Pos}
def tTupF (t : TA) : TE := fun σ H Q => t σ H fun xs H1 => xs.length ≤ sizeLine ∧ NewT xs H1 Q
theorem pe_tupF {x1} (h : PA X es t) : PE X (.Tuple es x1 pos) (tTupF t) := by
  refine ⟨fun pins s σ H Q I hq => ?_⟩
  refine wpAny_Tuple_spliced (thn (h.run pos pins s σ H _ I hq) fun us s1 ⟨xs, H1, I1, r, z, q⟩ => ⟨by rw [← r.length]; exact z, ?_⟩)
  exact laidT (t' := s1.toks) I1 (fun b u e => Heap.get?_push_of_some _ e) (Nat.le_refl _) (Heap.get?_push_size _ rfl) r z q
theorem call_tuple_ofF : CallR X (.type "tuple") (fun xs H Q => ∃ p ys, xs = [.ref p] ∧ ((SqL X.K H p ys ∧ NewT ys H Q) ∨ (SqT X.K H p ys ∧ Q (.ref p) H))) := by
  intro pins s σ H xs us Q I r h
  obtain ⟨p, ys, rfl, h⟩ := h
  obtain ⟨u, rfl, rx⟩ := vals1 r
  cases rx
  rcases h with ⟨hq, q⟩ | ⟨hq, q⟩
  · obtain ⟨its, r', pl, hz⟩ := I.list hq
    have hlen := r'.length
    refine call_tuple_list pl.isList (fun h' kp => ?_) (by simp only [List.size_toArray] <;> omega)
    have I1 : L2.Inv X pins σ H { s with heap := h' } := I.kept (t' := s.toks) kp
    exact laidT (s := { s with heap := h' }) (t' := s.toks) I1 (fun b o e => Heap.get?_push_of_some _ e) (Nat.le_refl _) (Heap.get?_push_size _ rfl) r' hz q
  · obtain ⟨its, r', pl, hz⟩ := I.tuple hq
    exact call_tuple_same pl ⟨.ref p, H, I, rfl, q⟩
/-- t + u -/
def rCatF (K : PySem.W.Frag) : R2 := fun x y H Q => ∃ a b xs ys, x = .ref a ∧ y = .ref b ∧ SqT K H a xs ∧ SqT K H b ys ∧ xs.length + ys.length ≤ sizeLine ∧
  (xs = [] → Q (.ref b) H) ∧ (xs ≠ [] → ys = [] → Q (.ref a) H) ∧ (xs ≠ [] → ys ≠ [] → NewT (xs ++ ys) H Q)
theorem op_catF : OpR X (binaryOp .Add) (rCatF X.K) := by
  intro pins s σ H x y v u Q I rx ry h
  obtain ⟨a, b, xs, ys, rfl, rfl, ha, hb, hz, q0, q1, q2⟩ := h
  cases rx
  cases ry
  obtain ⟨its, r1, p1, _⟩ := I.tuple ha
  obtain ⟨its2, r2, p2, _⟩ := I.tuple hb
  by_cases hx : xs = []
  · subst hx
    cases r1
    exact L2.cat_tup0 p1 p2 ⟨.ref b, H, I, rfl, q0 rfl⟩
  · refine HT.cat_tup p1 p2 (fun z => hx (r1.nil_iff.mp z)) (fun z => ⟨.ref a, H, I, rfl, q1 hx (r2.nil_iff.mp z)⟩) (fun z => ?_) (by rw [← r1.length, ← r2.length]; exact hz)
    exact laidT (t' := s.toks) I (fun b ob q => Heap.get?_push_of_some _ q) (Nat.le_refl _) (Heap.get?_push_size _ rfl) (r1.append r2) (by rw [List.length_append]; exact hz) (q2 hx fun w => z (r2.nil_iff.mpr w))
/-- t[lo:hi] -/
def rSlF (K : PySem.W.Frag) : V → Option Int → Option Int → Hp → VK → Prop := fun x lo hi H Q => ∃ a xs, x = .ref a ∧ SqT K H a xs ∧
  (HT.sIx xs.length 0 lo = 0 ∧ HT.sIx xs.length xs.length hi = xs.length → Q (.ref a) H) ∧ (¬ (HT.sIx xs.length 0 lo = 0 ∧ HT.sIx xs.length xs.length hi = xs.length) → NewT (cutV xs lo hi) H Q)
theorem sl_tupF : SlR X (rSlF X.K) := by
  intro pins s σ H x v vl vu lo hi sl Q I rx hs pl pu h
  obtain ⟨a, xs, rfl, hx, q1, q2⟩ := h
  cases rx
  obtain ⟨its, r, ht, hz⟩ := I.tuple hx
  have hlen : its.toArray.size = xs.length := by rw [List.size_toArray]; exact r.length.symm
  refine ⟨"tuple", _, PyProof.Rows.slot_tuple_getitem.lookup, ht.typeIs, ?_⟩
  by_cases hw : HT.sIx xs.length 0 lo = 0 ∧ HT.sIx xs.length xs.length hi = xs.length
  · exact L2.getItem_tuple_whole ht hs pl pu (by rw [hlen]; exact hw) ⟨.ref a, H, I, rfl, q1 hw⟩
  · refine HT.getItem_tuple_cut ht hs pl pu (by rw [hlen]; exact hw) ?_ (by rw [hlen]; exact hz)
    rw [hlen]
    exact laidT (t' := s.toks) I (fun b ob q => Heap.get?_push_of_some _ q) (Nat.le_refl _) (Heap.get?_push_size _ rfl) ((r.drop (HT.sIx xs.length 0 lo)).take (HT.sIx xs.length xs.length hi - HT.sIx xs.length 0 lo)) (Nat.le_trans (cutV_length xs lo hi) hz) (q2 hw)

/-! t * k -/
theorem tuple_mulS (l : Addr) (items : Array Value) (n : Nat) (dd : Option Addr) (sl : Array (Option Value)) (x : Int) (u : Tok) (c0 : (decide (x < -(2 ^ 63)) || decide (x ≥ 2 ^ 63)) = false) (c1 : (items.isEmpty || x == 1) = true) :
    Meets (Builtin.«tuple.__mul__» ⟨[.ref l, .int x u], []⟩) (fun _ R s => s.heap.get? l = some { cls := .type "tuple", dict := dd, data := .seq items n, slots := sl } ∧
      R (.ok (.ret (Value.ref l))) { s with heap := s.heap, toks := s.toks }) :=
  .of_wp fun prog w A R s h => by
    obtain ⟨hp, g, d, tk, os⟩ := s
    obtain ⟨hl, h⟩ := h
    have f1 := AutoSeq1.idx_int
    have f2 := AutoSeq1.sub_tuple_tuple
    wp_walk using wpAny_loadPart' hl
    repeat (first
      | (refine wpAny_ite_false (decide_eq_false (by rw [c0]; exact Bool.false_ne_true)) ?_; wp_walk using wpAny_loadPart' hl)
      | (refine wpAny_ite_true (decide_eq_true c1) ?_; wp_walk using wpAny_loadPart' hl))
    exact ⟨_, rfl, h⟩
theorem tuple_mul0 (l : Addr) (items : Array Value) (n : Nat) (dd : Option Addr) (sl : Array (Option Value)) (x : Int) (u : Tok) (c0 : (decide (x < -(2 ^ 63)) || decide (x ≥ 2 ^ 63)) = false) (c1 : (items.isEmpty || x == 1) = false) (c2 : (decide (x ≤ 0) || items.isEmpty) = true) :
    Meets (Builtin.«tuple.__mul__» ⟨[.ref l, .int x u], []⟩) (fun _ R s => s.heap.get? l = some { cls := .type "tuple", dict := dd, data := .seq items n, slots := sl } ∧
      R (.ok (.ret (Value.ref s.heap.objs.size))) { s with heap := s.heap.push { cls := Value.type "tuple", data := Data.seq #[] }, toks := s.toks }) :=
  .of_wp fun prog w A R s h => by
    obtain ⟨hp, g, d, tk, os⟩ := s
    obtain ⟨hl, h⟩ := h
    have f1 := AutoSeq1.idx_int
    have f2 := AutoSeq1.sub_tuple_tuple
    wp_walk using wpAny_loadPart' hl
    repeat (first
      | (refine wpAny_ite_false (decide_eq_false (by rw [c0]; exact Bool.false_ne_true)) ?_; wp_walk using wpAny_loadPart' hl)
      | (refine wpAny_ite_false (decide_eq_false (by rw [c1]; exact Bool.false_ne_true)) ?_; wp_walk using wpAny_loadPart' hl)
      | (refine wpAny_ite_true (decide_eq_true c2) ?_; wp_walk using wpAny_loadPart' hl))
    exact ⟨_, rfl, h⟩
def rRepF (K : PySem.W.Frag) : R2 := fun x y H Q => ∃ l k xs, x = .ref l ∧ y = .int k ∧ SqT K H l xs ∧ -1000 < k ∧ k ≤ 1000 ∧ xs.length ≤ 1000 ∧
  ((xs = [] ∨ k = 1) → Q (.ref l) H) ∧ (¬ (xs = [] ∨ k = 1) → NewT (List.replicate k.toNat xs).flatten H Q)
theorem op_repF : OpR X (binaryOp .Mult) (rRepF X.K) := by
  intro pins s σ H x y v u Q I rx ry h
  obtain ⟨l, k, xs, rfl, rfl, hT, h1, h2, hz, q1, q2⟩ := h
  cases rx
  obtain ⟨t, rfl⟩ := ry
  obtain ⟨its, r, ⟨⟨cls, dd, data, sl⟩, ho, hc, n, hd⟩, hs⟩ := I.tuple hT
  simp only at hc hd
  subst hc hd
  have hle : its.length = xs.length := r.length.symm
  have c0 : (decide (k < -(2 ^ 63)) || decide (k ≥ 2 ^ 63)) = false := by
    rw [decide_eq_false (by omega), decide_eq_false (by omega)] <;> rfl
  have hem : its.toArray.isEmpty = true ↔ xs = [] := by
    cases its with
    | nil => simp at hle ⊢; exact List.eq_nil_of_length_eq_zero hle.symm
    | cons a b =>
      cases xs with
      | nil => simp at hle
      | cons c d => simp
  by_cases hs1 : xs = [] ∨ k = 1
  · have c1 : (its.toArray.isEmpty || k == 1) = true := by
      rcases hs1 with z | z
      · rw [hem.mpr z]; rfl
      · subst z; simp
    refine wpAny_binaryOp_repeat_ref (T := "tuple") (U := "int") (by decide) ⟨_, ho, rfl⟩ (fun s' => typeIs_int s' k t) noFill_tuple_mul F.fills_int_mul F.slot_int_rmul repeat_tuple F.slot_int_index.lookup
      (call_meets F.slot_int_rmul (typeIs_int s k t) F.entry_int_rmul (F.args_int_rmul_2 _ _) (int_rmul_tuple k t l its.toArray n dd sl)
        ⟨ho, rfl, ⟨_, ho, rfl⟩, call_meets F.slot_tuple_mul ⟨_, ho, rfl⟩ F.entry_tuple_mul (F.args_tuple_mul_2 _ _) (tuple_mulS l its.toArray n dd sl k t c0 c1) ⟨ho, ?_⟩⟩)
    exact ⟨.ref l, H, I, rfl, q1 hs1⟩
  · have c1 : (its.toArray.isEmpty || k == 1) = false := by
      cases e : its.toArray.isEmpty with
      | true => exact absurd (.inl (hem.mp e)) hs1
      | false =>
        rw [Bool.false_or]
        exact beq_eq_false_iff_ne.mpr fun z => hs1 (.inr z)
    have hne : its.toArray.isEmpty = false := by
      cases e : its.toArray.isEmpty with
      | true => exact absurd (.inl (hem.mp e)) hs1
      | false => rfl
    have q2 := q2 hs1
    by_cases h0 : k ≤ 0
    · have c2 : (decide (k ≤ 0) || its.toArray.isEmpty) = true := by rw [decide_eq_true h0] <;> rfl
      refine wpAny_binaryOp_repeat_ref (T := "tuple") (U := "int") (by decide) ⟨_, ho, rfl⟩ (fun s' => typeIs_int s' k t) noFill_tuple_mul F.fills_int_mul F.slot_int_rmul repeat_tuple F.slot_int_index.lookup
        (call_meets F.slot_int_rmul (typeIs_int s k t) F.entry_int_rmul (F.args_int_rmul_2 _ _) (int_rmul_tuple k t l its.toArray n dd sl)
          ⟨ho, rfl, ⟨_, ho, rfl⟩, call_meets F.slot_tuple_mul ⟨_, ho, rfl⟩ F.entry_tuple_mul (F.args_tuple_mul_2 _ _) (tuple_mul0 l its.toArray n dd sl k t c0 c1 c2) ⟨ho, ?_⟩⟩)
      have e0 : k.toNat = 0 := by omega
      rw [e0] at q2
      exact laidT (its := []) (t' := s.toks) I (fun b ob q => Heap.get?_push_of_some _ q) (Nat.le_refl _) (Heap.get?_push_size _ rfl) .nil (Nat.zero_le _) q2
    · have hm : ((its.toArray.size : Nat) : Int) * k ≤ 1000000 := by
        rw [List.size_toArray, hle]
        have a1 : ((xs.length : Nat) : Int) * k ≤ 1000 * k := Int.mul_le_mul_of_nonneg_right (by omega) (by omega)
        omega
      have flen : (List.replicate k.toNat its).flatten.length ≤ sizeLine := by
        rw [PyProof.Rows.lm_len_rep_flat, hle, sizeLine_eq]
        have a1 : k.toNat * xs.length ≤ 1000 * 1000 := Nat.mul_le_mul (by omega) hz
        omega
      have c2 : (decide (k ≤ 0) || its.toArray.isEmpty) = false := by
        rw [hne, Bool.or_false]
        exact decide_eq_false (by omega)
      have c4 : Builtin.Tuple.tupleTooMany (((its.toArray.size : Nat) : Int) * k) = false := by
        unfold Builtin.Tuple.tupleTooMany
        rw [sizeLine_eq]
        exact decide_eq_false (by omega)
      refine wpAny_binaryOp_repeat_ref (T := "tuple") (U := "int") (by decide) ⟨_, ho, rfl⟩ (fun s' => typeIs_int s' k t) noFill_tuple_mul F.fills_int_mul F.slot_int_rmul repeat_tuple F.slot_int_index.lookup
        (call_meets F.slot_int_rmul (typeIs_int s k t) F.entry_int_rmul (F.args_int_rmul_2 _ _) (int_rmul_tuple k t l its.toArray n dd sl)
          ⟨ho, rfl, ⟨_, ho, rfl⟩, call_meets F.slot_tuple_mul ⟨_, ho, rfl⟩ F.entry_tuple_mul (F.args_tuple_mul_2 _ _) (tuple_mulW l its.toArray n dd sl k t c0 c1 c2 (by omega) c4 (by rw [size_rep, List.size_toArray]; exact flen)) ⟨ho, ?_⟩⟩)
      rw [size_rep]
      exact laidT (t' := s.toks) I (fun b ob q => Heap.get?_push_of_some _ q) (Nat.le_refl _) (Heap.get?_push_size _ rfl) (r.rep k.toNat) (by rw [← Vals.length (r.rep k.toNat)] at flen; exact flen) q2

/-! ### t.m(e, ..) of a known tuple -/
def tKM (r : V → List V → Hp → VK → Prop) (to : TE) (t : TA) : TE := fun σ H Q => to σ H fun x H1 => (∃ a xs, x = .ref a ∧ KT H1 a xs) ∧ t σ H1 fun xs H2 => r x xs H2 Q
theorem pe_km {o : Expr} {to : TE} {name : Str} {apos cpos : Pos} {id : String} {r : V → List V → Hp → VK → Prop} (pa : PlainAttrs "tuple") (slot : Slot "tuple" name id) (hty : typeOf (.builtin id) = pure (.type "method_descriptor")) (hm : MtR X id r) (ho : PE X o to) (ha : PA X (e :: es) t)
    (hbase : attributeBase o name X.env (eval o X.env) = eval o X.env := by rfl)
    (hfew : ((backTo cpos (starEach (e :: es) X.env)).all (fun x => !x.1) && (backToKw cpos (keywordEach [] X.env)).all (fun x => x.1.isSome)
      && decide ((e :: es).length + ([] : List Keyword).length + (if ([] : List Keyword).isEmpty then 0 else 1) < 30)) = true := by rfl)
    (hline : (apos.endLine == cpos.line) = true := by rfl) (hs : starEach (e :: es) X.env = (false, eval e X.env) :: starEach es X.env := by rfl) (hplain : (backTo cpos (starEach es X.env)).any (·.1) = false := by rfl) :
    PE X (.Call (.Attribute o name apos) (e :: es) [] cpos) (tKM r to t) := by
  refine ⟨fun pins s σ H Q I h => ?_⟩
  refine wpAny_Call_method_late hbase hfew hline rfl (thn (ho.run pins s σ H _ I h) fun v s1 ⟨x, H1, I1, r1, ⟨a, xs, ex, ob, hk, hd⟩, q1⟩ => ?_)
  subst ex
  obtain ⟨e1, _, its, _, o2, e2, hc, _⟩ := I1.hok a _ hk
  rw [e1] at e2
  cases e2
  have rx : v = Value.ref a := r1
  subst rx
  refine ⟨"tuple", id, pa, slot, hty, ⟨ob, e1, hc⟩, fun b eb => ?_, ?_⟩
  · cases eb
    exact ⟨ob, e1, hd⟩
  have hA := ha.run cpos pins s1 σ H1 _ I1 q1
  rw [hs] at hA ⊢
  refine Calls.callWith_builtin (by show (false || (backTo cpos (starEach es X.env)).any (·.1)) = false; rw [hplain] <;> rfl) (Calls.evalArgs_plain ?_)
  exact thn hA fun us s2 ⟨vs, H2, I2, r2, q2⟩ => hm pins s2 σ H2 (.ref a) vs _ us Q I2 rfl r2 q2
end
end DL
set_option maxRecDepth 100000
set_option maxHeartbeats 1000000
/-! DL1: data in place of heaps: what a value stands for, the state by data, the lifted judgements. -/
namespace DL
open PySem L2

inductive Dat where
  | non | bl (b : Bool) | int (i : Int) | str (x : Str)
  | tup (xs : List Dat) | lst (xs : List Dat)
  | dct (ks : List (Key × Dat)) | dtt (ks : List (List Key × Dat))
  | obj (C : Addr) (fs : List (Str × Dat))
  | cell | ty (n : String) | cls (C : Addr) | rng (i j : Int)
/-- the table of the code objects of a def's own lambdas (none: no def makes one), the name of these -/
class TabC where
  tb : Option Addr
  q : Str
/-- what any def may change: the cell that gives digits, the table -/
structure BB where
  bx : Option Addr
def BB.has [TabC] (B : BB) (a : Addr) : Prop := B.bx = some a ∨ TabC.tb = some a

mutual
inductive Rep (B : BB) (F : Hp) : V → Dat → Prop
  | non : Rep B F .non .non
  | bl {b} : Rep B F (.bl b) (.bl b)
  | int {i} : Rep B F (.int i) (.int i)
  | str {x} : Rep B F (.str x) (.str x)
  | tup {p vs xs} {o : Obj} : F p = some (.frz o (.tup vs)) → o.dict = none → Reps B F vs xs → Rep B F (.ref p) (.tup xs)
  | lst {p vs xs} : F p = some (.lst vs) → Reps B F vs xs → Rep B F (.ref p) (.lst xs)
  | dct {p ks xs} : F p = some (.dK ks) → ks.map (·.1) = xs.map (·.1) → Reps B F (ks.map (·.2)) (xs.map (·.2)) → Rep B F (.ref p) (.dct xs)
  | dtt {p ks xs} : F p = some (.dT ks) → ks.map (·.1) = xs.map (·.1) → Reps B F (ks.map (·.2)) (xs.map (·.2)) → Rep B F (.ref p) (.dtt xs)
  | obj {p C dx fs xs} : F p = some (.ins C dx fs) → fs.map (·.1) = xs.map (·.1) → Reps B F (fs.map (·.2)) (xs.map (·.2)) → Rep B F (.ref p) (.obj C xs)
  | cell {b} : B.bx = some b → Rep B F (.ref b) .cell
  | rng {p i j} : F p = some (.rng i j) → Rep B F (.ref p) (.rng i j)
  | ty {n} : Rep B F (.ty n) (.ty n)
  | cls {C} : Rep B F (.ref C) (.cls C)
inductive Reps (B : BB) (F : Hp) : List V → List Dat → Prop
  | nil : Reps B F [] []
  | cons {v d vs ds} : Rep B F v d → Reps B F vs ds → Reps B F (v :: vs) (d :: ds)
end

def Ex (H H' : Hp) : Prop := ∀ a o, H a = some o → H' a = some o
theorem Ex.refl (H : Hp) : Ex H H := fun _ _ h => h
theorem Ex.trans {H H1 H2 : Hp} (a : Ex H H1) (b : Ex H1 H2) : Ex H H2 := fun x o h => b x o (a x o h)
theorem Ex.new {H : Hp} {p : Addr} {o : HO} (h : H p = none) : Ex H (upd H p o) := fun a u e => by
  rw [upd_ne (ne_of_none e h)]
  exact e
theorem Ex.upd {H H' : Hp} {p : Addr} {o : HO} (e : Ex H H') : Ex (upd H p o) (L2.upd H' p o) := fun a u h => by
  by_cases q : a = p
  · subst q; rw [upd_same] at h ⊢; exact h
  · rw [upd_ne q] at h ⊢; exact e a u h
/-- an object that H does not know may change -/
theorem Ex.mut {H H' : Hp} {p : Addr} {o : HO} (e : Ex H H') (h : H p = none) : Ex H (L2.upd H' p o) := fun a u ha => by
  rw [upd_ne (ne_of_none ha h)]
  exact e a u ha
theorem Ex.back {H H' : Hp} {p : Addr} (e : Ex H H') (h : H' p = none) : H p = none := by
  cases q : H p with
  | none => rfl
  | some o => rw [e p o q] at h; cases h

mutual
theorem Rep.mono {B : BB} {F F' : Hp} (e : Ex F F') : ∀ {v d}, Rep B F v d → Rep B F' v d
  | _, _, .non => .non
  | _, _, .bl => .bl
  | _, _, .int => .int
  | _, _, .str => .str
  | _, _, .tup h hd r => .tup (e _ _ h) hd (Reps.mono e r)
  | _, _, .lst h r => .lst (e _ _ h) (Reps.mono e r)
  | _, _, .dct h k r => .dct (e _ _ h) k (Reps.mono e r)
  | _, _, .dtt h k r => .dtt (e _ _ h) k (Reps.mono e r)
  | _, _, .obj h k r => .obj (e _ _ h) k (Reps.mono e r)
  | _, _, .cell h => .cell h
  | _, _, .rng h => .rng (e _ _ h)
  | _, _, .ty => .ty
  | _, _, .cls => .cls
theorem Reps.mono {B : BB} {F F' : Hp} (e : Ex F F') : ∀ {vs ds}, Reps B F vs ds → Reps B F' vs ds
  | _, _, .nil => .nil
  | _, _, .cons h r => .cons (Rep.mono e h) (Reps.mono e r)
end
theorem Reps.length {B : BB} {F : Hp} : ∀ {vs ds}, Reps B F vs ds → vs.length = ds.length
  | _, _, .nil => rfl
  | _, _, .cons _ r => by rw [List.length_cons, List.length_cons, r.length]
theorem Reps.get {B : BB} {F : Hp} : ∀ {vs : List V} {ds : List Dat} {i : Nat} {d : Dat}, Reps B F vs ds → ds[i]? = some d → ∃ v, vs[i]? = some v ∧ Rep B F v d
  | _, _, _, _, .nil, e => by simp at e
  | _, _, 0, _, .cons r _, e => by simp at e; subst e; exact ⟨_, rfl, r⟩
  | _, _, i + 1, d, .cons _ t, e => by
    obtain ⟨u, h1, h2⟩ := Reps.get (i := i) (d := d) t (by simpa using e)
    exact ⟨u, by simpa using h1, h2⟩
theorem Reps.getV {B : BB} {F : Hp} : ∀ {vs : List V} {ds : List Dat} {i : Nat} {v : V}, Reps B F vs ds → vs[i]? = some v → ∃ d, ds[i]? = some d ∧ Rep B F v d
  | _, _, _, _, .nil, e => by simp at e
  | _, _, 0, _, .cons r _, e => by simp at e; subst e; exact ⟨_, rfl, r⟩
  | _, _, i + 1, d, .cons _ t, e => by
    obtain ⟨u, h1, h2⟩ := Reps.getV (i := i) (v := d) t (by simpa using e)
    exact ⟨u, by simpa using h1, h2⟩
theorem Reps.append {B : BB} {F : Hp} : ∀ {vs ws : List V} {ds es : List Dat}, Reps B F vs ds → Reps B F ws es → Reps B F (vs ++ ws) (ds ++ es)
  | _, _, _, _, .nil, h => h
  | _, _, _, _, .cons r t, h => .cons r (t.append h)
theorem Reps.set {B : BB} {F : Hp} {v : V} {d : Dat} (h : Rep B F v d) : ∀ {vs : List V} {ds : List Dat} (i : Nat), Reps B F vs ds → Reps B F (vs.set i v) (ds.set i d)
  | _, _, _, .nil => .nil
  | _, _, 0, .cons _ t => .cons h t
  | _, _, i + 1, .cons r t => .cons r (t.set h i)
theorem Reps.take {B : BB} {F : Hp} : ∀ {vs : List V} {ds : List Dat} (n : Nat), Reps B F vs ds → Reps B F (vs.take n) (ds.take n)
  | _, _, 0, _ => .nil
  | _, _, _ + 1, .nil => .nil
  | _, _, n + 1, .cons r t => .cons r (t.take n)
theorem Reps.drop {B : BB} {F : Hp} : ∀ {vs : List V} {ds : List Dat} (n : Nat), Reps B F vs ds → Reps B F (vs.drop n) (ds.drop n)
  | _, _, 0, r => r
  | _, _, _ + 1, .nil => .nil
  | _, _, n + 1, .cons _ t => t.drop n
theorem Reps.eraseIdx {B : BB} {F : Hp} : ∀ {vs : List V} {ds : List Dat} (n : Nat), Reps B F vs ds → Reps B F (vs.eraseIdx n) (ds.eraseIdx n)
  | _, _, _, .nil => by simpa using Reps.nil
  | _, _, 0, .cons _ t => t
  | _, _, n + 1, .cons r t => .cons r (t.eraseIdx n)
theorem Reps.dropLast {B : BB} {F : Hp} {vs : List V} {ds : List Dat} (h : Reps B F vs ds) : Reps B F vs.dropLast ds.dropLast := by
  rw [List.dropLast_eq_take, List.dropLast_eq_take, h.length]
  exact h.take _
theorem Reps.flatten {B : BB} {F : Hp} {vs : List V} {ds : List Dat} (h : Reps B F vs ds) : ∀ n, Reps B F (List.replicate n vs).flatten (List.replicate n ds).flatten
  | 0 => by simpa using Reps.nil
  | n + 1 => by rw [List.replicate_succ, List.replicate_succ, List.flatten_cons, List.flatten_cons]; exact h.append (h.flatten n)
theorem Reps.ints {B : BB} {F : Hp} : ∀ {vs : List V} {ns : List Int}, Reps B F vs (ns.map Dat.int) → vs = ns.map V.int
  | _, [], .nil => rfl
  | _, n :: ns, h => by
    rw [List.map_cons] at h
    cases h with
    | cons r t => cases r; rw [t.ints]; rfl
theorem Reps.of_ints {B : BB} {F : Hp} : ∀ (ns : List Int), Reps B F (ns.map V.int) (ns.map Dat.int)
  | [] => .nil
  | n :: ns => .cons .int (Reps.of_ints ns)
theorem Reps.bls {B : BB} {F : Hp} : ∀ {vs : List V} {ns : List Bool}, Reps B F vs (ns.map Dat.bl) → vs = ns.map V.bl
  | _, [], .nil => rfl
  | _, n :: ns, h => by
    rw [List.map_cons] at h
    cases h with
    | cons r t => cases r; rw [t.bls]; rfl

/-! ### the box -/
def CAP : Nat := 2 ^ 38
def BoxV (vs : List V) (n : Nat) : Prop := ∃ (g : Int) (k : Bool) (m l : Int), vs = [.int g, .bl k, .int m, .int l] ∧ 0 ≤ g ∧ 0 ≤ m ∧ m < 2147483647 ∧ 0 ≤ l ∧ l ≤ n
variable [TabC]
def BoxAt (B : BB) (H : Hp) (n : Nat) : Prop := (∀ b, B.bx = some b → ∃ vs, H b = some (.lst vs) ∧ BoxV vs n) ∧ ∀ P, TabC.tb = some P → LamX.TabS H P TabC.q
theorem BoxAt.mono {B : BB} {H : Hp} {n m : Nat} (h : BoxAt B H n) (e : n ≤ m) : BoxAt B H m := ⟨fun b hb => by
  obtain ⟨vs, h1, g, k, m', l, h2, h3, h4, h5, h6, h7⟩ := h.1 b hb
  exact ⟨vs, h1, g, k, m', l, h2, h3, h4, h5, h6, by omega⟩, h.2⟩
theorem tab_write {H : Hp} {P p : Addr} {q : Str} {o : HO} (t : LamX.TabS H P q) (ne : P ≠ p) (hx : ∀ φ, H p ≠ some (.ext φ)) : LamX.TabS (upd H p o) P q := by
  obtain ⟨ps, h1, h2, h3⟩ := t
  refine ⟨ps, by rw [upd_ne ne]; exact h1, h2, fun pos cv hc => ?_⟩
  obtain ⟨c, e1, e2⟩ := h3 pos cv hc
  exact ⟨c, e1, by rw [upd_ne (fun z => hx _ (by rw [← z]; exact e2))]; exact e2⟩

/-- what is owned by one name: a list or a dict that may change -/
def Cont (B : BB) (F : Hp) : HO → Dat → Prop
  | .lst vs, .lst ds => Reps B F vs ds
  | .dK ks, .dct xs => ks.map (·.1) = xs.map (·.1) ∧ Reps B F (ks.map (·.2)) (xs.map (·.2))
  | .dT ks, .dtt xs => ks.map (·.1) = xs.map (·.1) ∧ Reps B F (ks.map (·.2)) (xs.map (·.2))
  | .ins C _ fs, .obj C' xs => C = C' ∧ fs.map (·.1) = xs.map (·.1) ∧ Reps B F (fs.map (·.2)) (xs.map (·.2))
  | _, _ => False
theorem Cont.mono {B : BB} {F F' : Hp} (e : Ex F F') {o : HO} {d : Dat} (h : Cont B F o d) : Cont B F' o d := by
  cases o <;> cases d <;> first | exact h.elim | exact Reps.mono e h | exact ⟨h.1, Reps.mono e h.2⟩ | exact ⟨h.1, h.2.1, Reps.mono e h.2.2⟩
structure Ow (B : BB) (F H : Hp) (p : Addr) (d : Dat) : Prop where
  out : F p = none
  nb : ¬ B.has p
  con : ∃ o, H p = some o ∧ Cont B F o d
theorem Cont.noext {B : BB} {F : Hp} {o : HO} {d : Dat} (h : Cont B F o d) (φ : Heap → Prop) : o ≠ .ext φ := fun e => by
  subst e
  cases d <;> exact h.elim
theorem Ow.noext {B : BB} {F H : Hp} {p : Addr} {d : Dat} (w : Ow B F H p d) (φ : Heap → Prop) : H p ≠ some (.ext φ) := fun e => by
  obtain ⟨o, h1, h2⟩ := w.con
  rw [e] at h1
  cases h1
  exact h2.noext φ rfl
theorem Cont.rep {B : BB} {F : Hp} {p : Addr} {o : HO} {d : Dat} (hp : F p = some o) (h : Cont B F o d) : Rep B F (.ref p) d := by
  cases o <;> cases d <;> first | exact h.elim | exact .lst hp h | exact .dct hp h.1 h.2 | exact .dtt hp h.1 h.2 | (obtain ⟨rfl, h1, h2⟩ := h; exact .obj hp h1 h2)

/-! ### growing -/
structure Gr (A : Addr → Prop) (B : BB) (c : Nat) (F H F' H' : Hp) : Prop where
  ex : Ex F F'
  sub : Ex F' H'
  new : ∀ a o, F' a = some o → F a = some o ∨ H a = none ∨ A a
  keep : ∀ a o, H a = some o → ¬ B.has a → ¬ A a → H' a = some o
  there : ∀ a o, H a = some o → ∃ o', H' a = some o'
  box : ∀ n, BoxAt B H n → BoxAt B H' (n + c)
abbrev NoA : Addr → Prop := fun _ => False
theorem Gr.free {A : Addr → Prop} {B : BB} {c : Nat} {F H F' H' : Hp} (g : Gr A B c F H F' H') {a : Addr} (h : H' a = none) : H a = none := by
  cases q : H a with
  | none => rfl
  | some o => obtain ⟨o', e⟩ := g.there a o q; rw [e] at h; cases h
theorem Gr.refl {A : Addr → Prop} {B : BB} {F H : Hp} (e : Ex F H) : Gr A B 0 F H F H :=
  ⟨.refl _, e, fun _ _ h => .inl h, fun _ _ h _ _ => h, fun _ o h => ⟨o, h⟩, fun _ h => h⟩
theorem Gr.mono {A : Addr → Prop} {B : BB} {c c' : Nat} {F H F' H' : Hp} (g : Gr A B c F H F' H') (h : c ≤ c') : Gr A B c' F H F' H' :=
  { g with box := fun n b => (g.box n b).mono (by omega) }
theorem Gr.toA {A A' : Addr → Prop} {B : BB} {c : Nat} {F H F' H' : Hp} (g : Gr A B c F H F' H') (h : ∀ a, A a → A' a) : Gr A' B c F H F' H' :=
  { g with new := fun a o e => (g.new a o e).imp_right fun z => z.imp_right (h a), keep := fun a o e nb na => g.keep a o e nb fun z => na (h a z) }
theorem Gr.any {A : Addr → Prop} {B : BB} {c : Nat} {F H F' H' : Hp} (g : Gr NoA B c F H F' H') : Gr A B c F H F' H' := g.toA fun _ z => z.elim
theorem Gr.trans {A : Addr → Prop} {B : BB} {c c' : Nat} {F H F1 H1 F2 H2 : Hp} (g : Gr A B c F H F1 H1) (k : Gr A B c' F1 H1 F2 H2) : Gr A B (c + c') F H F2 H2 where
  ex := g.ex.trans k.ex
  sub := k.sub
  new := fun a o h => by
    rcases k.new a o h with z | z | z
    · exact g.new a o z
    · exact .inr (.inl (g.free z))
    · exact .inr (.inr z)
  keep := fun a o h nb na => k.keep a o (g.keep a o h nb na) nb na
  there := fun a o h => by
    obtain ⟨o1, h1⟩ := g.there a o h
    exact k.there a o1 h1
  box := fun n h => by rw [← Nat.add_assoc]; exact k.box _ (g.box n h)
/-- a new object, known from now on -/
theorem Gr.alloc {A : Addr → Prop} {B : BB} {F H : Hp} {p : Addr} {o : HO} (e : Ex F H) (h : H p = none) : Gr A B 0 F H (upd F p o) (upd H p o) where
  ex := Ex.new (e.back h)
  sub := e.upd
  new := fun a u q => by
    by_cases z : a = p
    · subst z; exact .inr (.inl h)
    · rw [upd_ne z] at q; exact .inl q
  keep := fun a u q _ _ => Ex.new h a u q
  there := fun a u q => ⟨u, Ex.new h a u q⟩
  box := fun n b => ⟨fun x hx => by
    obtain ⟨vs, h1, h2⟩ := b.1 x hx
    exact ⟨vs, Ex.new h x _ h1, h2⟩, fun P hP => (b.2 P hP).ext (Ex.new h)⟩
/-- a new object, known to nobody -/
theorem Gr.alloc0 {A : Addr → Prop} {B : BB} {F H : Hp} {p : Addr} {o : HO} (e : Ex F H) (h : H p = none) : Gr A B 0 F H F (upd H p o) where
  ex := .refl _
  sub := e.mut (e.back h)
  new := fun a u q => .inl q
  keep := fun a u q _ _ => Ex.new h a u q
  there := fun a u q => ⟨u, Ex.new h a u q⟩
  box := fun n b => ⟨fun x hx => by
    obtain ⟨vs, h1, h2⟩ := b.1 x hx
    exact ⟨vs, Ex.new h x _ h1, h2⟩, fun P hP => (b.2 P hP).ext (Ex.new h)⟩
/-- an object of one's own changes -/
theorem Gr.write {A : Addr → Prop} {B : BB} {F H : Hp} {p : Addr} {o : HO} (e : Ex F H) (ha : A p) (hf : F p = none) (hb : ¬ B.has p) (hx : ∀ φ, H p ≠ some (.ext φ)) : Gr A B 0 F H F (upd H p o) where
  ex := .refl _
  sub := e.mut hf
  new := fun a u q => .inl q
  keep := fun a u q _ na => by
    have : a ≠ p := fun z => na (z ▸ ha)
    rw [upd_ne this]; exact q
  there := fun a u q => by
    by_cases z : a = p
    · subst z; exact ⟨o, upd_same⟩
    · exact ⟨u, by rw [upd_ne z]; exact q⟩
  box := fun n b => ⟨fun x hx2 => by
    obtain ⟨vs, h1, h2⟩ := b.1 x hx2
    have : x ≠ p := fun z => hb (.inl (z ▸ hx2))
    exact ⟨vs, by rw [upd_ne this]; exact h1, h2⟩, fun P hP => tab_write (b.2 P hP) (fun z => hb (.inr (z ▸ hP))) hx⟩
/-- an object of one's own becomes known -/
theorem Gr.freeze {A : Addr → Prop} {B : BB} {F H : Hp} {p : Addr} {o : HO} (e : Ex F H) (ha : A p) (hf : F p = none) (hp : H p = some o) : Gr A B 0 F H (upd F p o) H where
  ex := Ex.new hf
  sub := fun a u q => by
    by_cases z : a = p
    · subst z; rw [upd_same] at q; rw [← q]; exact hp
    · rw [upd_ne z] at q; exact e a u q
  new := fun a u q => by
    by_cases z : a = p
    · subst z; exact .inr (.inr ha)
    · rw [upd_ne z] at q; exact .inl q
  keep := fun a u q _ _ => q
  there := fun a u q => ⟨u, q⟩
  box := fun n b => b

/-! ### the state -/
inductive Sl where
  | off | val (d : Dat) | own (d : Dat) | raw (v : V)
abbrev Ev := List Sl
structure Rs (A : Addr → Prop) (B : BB) (F H : Hp) (σ : L2.St) (ε : Ev) : Prop where
  ex : Ex F H
  len : ε.length = σ.length
  val : ∀ (i : Nat) (d : Dat), ε[i]? = some (.val d) → ∃ v, σ[i]? = some (some v) ∧ Rep B F v d
  own : ∀ (i : Nat) (d : Dat), ε[i]? = some (.own d) → ∃ p, σ[i]? = some (some (.ref p)) ∧ A p ∧ Ow B F H p d
  sep : ∀ (i j : Nat) (d e : Dat) (p : Addr), ε[i]? = some (.own d) → ε[j]? = some (.own e) → σ[i]? = some (some (.ref p)) → σ[j]? = some (some (.ref p)) → i = j
  bx : ∀ b, B.has b → F b = none ∧ ¬ A b ∧ ∃ o, H b = some o
  new : ∀ a, H a = none → A a
  raw : ∀ (i : Nat) (v : V), ε[i]? = some (.raw v) → σ[i]? = some (some v)
section
variable {A : Addr → Prop} {B : BB} {F H F' H' : Hp} {σ σ' : L2.St} {ε ε' : Ev} {c : Nat}
theorem Gr.bF (g : Gr A B c F H F' H') (bx : ∀ b, B.has b → F b = none ∧ ¬ A b ∧ ∃ o, H b = some o) : ∀ b, B.has b → F' b = none ∧ ¬ A b ∧ ∃ o, H' b = some o := fun b hb => by
  obtain ⟨h1, h2, o, h3⟩ := bx b hb
  refine ⟨?_, h2, g.there b o h3⟩
  cases q : F' b with
  | none => rfl
  | some u =>
    rcases g.new b u q with z | z | z
    · rw [h1] at z; cases z
    · rw [h3] at z; cases z
    · exact (h2 z).elim
theorem Ow.gr {p : Addr} {d : Dat} (w : Ow B F H p d) (g : Gr NoA B c F H F' H') : Ow B F' H' p d := by
  obtain ⟨o, h1, h2⟩ := w.con
  refine ⟨?_, w.nb, o, g.keep p o h1 w.nb (fun z => z), h2.mono g.ex⟩
  cases q : F' p with
  | none => rfl
  | some u =>
    rcases g.new p u q with z | z | z
    · rw [w.out] at z; cases z
    · rw [h1] at z; cases z
    · exact z.elim
theorem Rs.gr (r : Rs A B F H σ ε) (g : Gr NoA B c F H F' H') : Rs A B F' H' σ ε where
  ex := g.sub
  len := r.len
  val := fun i d e => by
    obtain ⟨v, h1, h2⟩ := r.val i d e
    exact ⟨v, h1, h2.mono g.ex⟩
  own := fun i d e => by
    obtain ⟨p, h1, h2, h3⟩ := r.own i d e
    exact ⟨p, h1, h2, h3.gr g⟩
  sep := r.sep
  bx := (g.any (A := A)).bF r.bx
  new := fun a h => r.new a (g.free h)
  raw := r.raw
/-- a frozen value is stored -/
theorem Rs.setVal (r : Rs A B F H σ ε) {i : Nat} {v : V} {d : Dat} (h : Rep B F v d) : Rs A B F H (σ.set i (some v)) (ε.set i (.val d)) where
  ex := r.ex
  len := by rw [List.length_set, List.length_set, r.len]
  val := fun j e q => by
    by_cases z : i = j
    · subst z
      have hi : i < ε.length := by
        have := (List.getElem?_eq_some_iff.mp q).1
        rwa [List.length_set] at this
      rw [List.getElem?_set_self hi] at q
      cases q
      exact ⟨v, by rw [List.getElem?_set_self (by rw [← r.len]; exact hi)], h⟩
    · rw [List.getElem?_set_ne z] at q ⊢
      exact r.val j e q
  own := fun j e q => by
    by_cases z : i = j
    · subst z
      have hi : i < ε.length := by
        have := (List.getElem?_eq_some_iff.mp q).1
        rwa [List.length_set] at this
      rw [List.getElem?_set_self hi] at q
      cases q
    · rw [List.getElem?_set_ne z] at q ⊢
      exact r.own j e q
  sep := fun j k d1 d2 p h1 h2 h3 h4 => by
    by_cases z : i = j
    · subst z
      have hi : i < ε.length := by
        have := (List.getElem?_eq_some_iff.mp h1).1
        rwa [List.length_set] at this
      rw [List.getElem?_set_self hi] at h1
      cases h1
    · by_cases z2 : i = k
      · subst z2
        have hi : i < ε.length := by
          have := (List.getElem?_eq_some_iff.mp h2).1
          rwa [List.length_set] at this
        rw [List.getElem?_set_self hi] at h2
        cases h2
      · rw [List.getElem?_set_ne z] at h1 h3
        rw [List.getElem?_set_ne z2] at h2 h4
        exact r.sep j k d1 d2 p h1 h2 h3 h4
  bx := r.bx
  new := r.new
  raw := fun j e q => by
    by_cases z : i = j
    · subst z
      have hi : i < ε.length := by
        have := (List.getElem?_eq_some_iff.mp q).1
        rwa [List.length_set] at this
      rw [List.getElem?_set_self hi] at q
      cases q
    · rw [List.getElem?_set_ne z] at q ⊢
      exact r.raw j e q
/-- an owned object is stored: it stands at no other name -/
theorem Rs.setOwn (r : Rs A B F H σ ε) {i : Nat} {p : Addr} {d : Dat} (ha : A p) (h : Ow B F H p d) (hn : ∀ j e, ε[j]? = some (.own e) → σ[j]? = some (some (.ref p)) → j = i) : Rs A B F H (σ.set i (some (.ref p))) (ε.set i (.own d)) where
  ex := r.ex
  len := by rw [List.length_set, List.length_set, r.len]
  val := fun j e q => by
    by_cases z : i = j
    · subst z
      have hi : i < ε.length := by
        have := (List.getElem?_eq_some_iff.mp q).1
        rwa [List.length_set] at this
      rw [List.getElem?_set_self hi] at q
      cases q
    · rw [List.getElem?_set_ne z] at q ⊢
      exact r.val j e q
  own := fun j e q => by
    by_cases z : i = j
    · subst z
      have hi : i < ε.length := by
        have := (List.getElem?_eq_some_iff.mp q).1
        rwa [List.length_set] at this
      rw [List.getElem?_set_self hi] at q
      cases q
      exact ⟨p, by rw [List.getElem?_set_self (by rw [← r.len]; exact hi)], ha, h⟩
    · rw [List.getElem?_set_ne z] at q ⊢
      exact r.own j e q
  sep := fun j k d1 d2 q h1 h2 h3 h4 => by
    by_cases z : i = j
    · by_cases z2 : i = k
      · rw [← z, ← z2]
      · subst z
        have hi : i < ε.length := by
          have := (List.getElem?_eq_some_iff.mp h1).1
          rwa [List.length_set] at this
        rw [List.getElem?_set_self (by rw [← r.len]; exact hi)] at h3
        cases h3
        rw [List.getElem?_set_ne z2] at h2 h4
        exact (hn k d2 h2 h4).symm
    · by_cases z2 : i = k
      · subst z2
        have hi : i < ε.length := by
          have := (List.getElem?_eq_some_iff.mp h2).1
          rwa [List.length_set] at this
        rw [List.getElem?_set_self (by rw [← r.len]; exact hi)] at h4
        cases h4
        rw [List.getElem?_set_ne z] at h1 h3
        exact hn j d1 h1 h3
      · rw [List.getElem?_set_ne z] at h1 h3
        rw [List.getElem?_set_ne z2] at h2 h4
        exact r.sep j k d1 d2 q h1 h2 h3 h4
  bx := r.bx
  new := r.new
  raw := fun j e q => by
    by_cases z : i = j
    · subst z
      have hi : i < ε.length := by
        have := (List.getElem?_eq_some_iff.mp q).1
        rwa [List.length_set] at this
      rw [List.getElem?_set_self hi] at q
      cases q
    · rw [List.getElem?_set_ne z] at q ⊢
      exact r.raw j e q
/-- slots forgotten -/
theorem Rs.wipe1 (r : Rs A B F H σ ε) (i : Nat) : Rs A B F H (σ.set i none) (ε.set i .off) where
  ex := r.ex
  len := by rw [List.length_set, List.length_set, r.len]
  val := fun j e q => by
    by_cases z : i = j
    · subst z
      have hi : i < ε.length := by
        have := (List.getElem?_eq_some_iff.mp q).1
        rwa [List.length_set] at this
      rw [List.getElem?_set_self hi] at q
      cases q
    · rw [List.getElem?_set_ne z] at q ⊢
      exact r.val j e q
  own := fun j e q => by
    by_cases z : i = j
    · subst z
      have hi : i < ε.length := by
        have := (List.getElem?_eq_some_iff.mp q).1
        rwa [List.length_set] at this
      rw [List.getElem?_set_self hi] at q
      cases q
    · rw [List.getElem?_set_ne z] at q ⊢
      exact r.own j e q
  sep := fun j k d1 d2 p h1 h2 h3 h4 => by
    by_cases z : i = j
    · subst z
      have hi : i < ε.length := by
        have := (List.getElem?_eq_some_iff.mp h1).1
        rwa [List.length_set] at this
      rw [List.getElem?_set_self hi] at h1
      cases h1
    · by_cases z2 : i = k
      · subst z2
        have hi : i < ε.length := by
          have := (List.getElem?_eq_some_iff.mp h2).1
          rwa [List.length_set] at this
        rw [List.getElem?_set_self hi] at h2
        cases h2
      · rw [List.getElem?_set_ne z] at h1 h3
        rw [List.getElem?_set_ne z2] at h2 h4
        exact r.sep j k d1 d2 p h1 h2 h3 h4
  bx := r.bx
  new := r.new
  raw := fun j e q => by
    by_cases z : i = j
    · subst z
      have hi : i < ε.length := by
        have := (List.getElem?_eq_some_iff.mp q).1
        rwa [List.length_set] at this
      rw [List.getElem?_set_self hi] at q
      cases q
    · rw [List.getElem?_set_ne z] at q ⊢
      exact r.raw j e q
def wipeD (ε : Ev) : List Nat → Ev
  | [] => ε
  | v :: vs => (wipeD ε vs).set v .off
theorem Rs.wipe (r : Rs A B F H σ ε) : ∀ vs : List Nat, Rs A B F H (L2.wipe σ vs) (wipeD ε vs)
  | [] => r
  | v :: vs => (r.wipe vs).wipe1 v
/-- the owned object at slot i is written -/
theorem Rs.write (r : Rs A B F H σ ε) {i : Nat} {p : Addr} {d d' : Dat} {o : HO} (hi : ε[i]? = some (.own d)) (hp : σ[i]? = some (some (.ref p))) (ho : Cont B F o d') : Rs A B F (upd H p o) σ (ε.set i (.own d')) ∧ Gr A B 0 F H F (upd H p o) := by
  obtain ⟨p', h1, ha, w⟩ := r.own i d hi
  rw [hp] at h1
  cases h1
  have il : i < ε.length := (List.getElem?_eq_some_iff.mp hi).1
  refine ⟨⟨r.ex.mut w.out, by rw [List.length_set, r.len], fun j e q => ?_, fun j e q => ?_, fun j k d1 d2 q h1 h2 h3 h4 => ?_, fun b hb => ?_, fun a h => ?_, fun j e q => ?_⟩, Gr.write r.ex ha w.out w.nb w.noext⟩
  · by_cases z : i = j
    · subst z
      rw [List.getElem?_set_self il] at q
      cases q
    · rw [List.getElem?_set_ne z] at q
      exact r.val j e q
  · by_cases z : i = j
    · subst z
      rw [List.getElem?_set_self il] at q
      cases q
      exact ⟨p, hp, ha, w.out, w.nb, o, upd_same, ho⟩
    · rw [List.getElem?_set_ne z] at q
      obtain ⟨p2, h1, h2, h3⟩ := r.own j e q
      refine ⟨p2, h1, h2, h3.out, h3.nb, ?_⟩
      obtain ⟨o2, h4, h5⟩ := h3.con
      refine ⟨o2, ?_, h5⟩
      rw [upd_ne]
      · exact h4
      · intro e2
        subst e2
        exact z (r.sep i j d e p2 hi q hp h1)
  · by_cases z : i = j
    · by_cases z2 : i = k
      · rw [← z, ← z2]
      · subst z
        rw [List.getElem?_set_ne z2] at h2
        exact r.sep i k d d2 q hi h2 h3 h4
    · by_cases z2 : i = k
      · subst z2
        rw [List.getElem?_set_ne z] at h1
        exact r.sep j i d1 d q h1 hi h3 h4
      · rw [List.getElem?_set_ne z] at h1
        rw [List.getElem?_set_ne z2] at h2
        exact r.sep j k d1 d2 q h1 h2 h3 h4
  · obtain ⟨h1, h2, u, h3⟩ := r.bx b hb
    exact ⟨h1, h2, u, by rw [upd_ne (fun z => w.nb (by rw [← z]; exact hb))]; exact h3⟩
  · refine r.new a ?_
    by_cases z : a = p
    · subst z; rw [upd_same] at h; cases h
    · rwa [upd_ne z] at h
  · by_cases z : i = j
    · subst z
      rw [List.getElem?_set_self il] at q
      cases q
    · rw [List.getElem?_set_ne z] at q
      exact r.raw j e q
/-- the owned object at slot i is known from now on -/
theorem Rs.freezeAt (r : Rs A B F H σ ε) {i : Nat} {d : Dat} (hi : ε[i]? = some (.own d)) : ∃ p o, F p = none ∧ ¬ B.has p ∧ H p = some o ∧ Cont B F o d ∧ Rs A B (L2.upd F p o) H σ (ε.set i (.val d)) ∧ Gr A B 0 F H (L2.upd F p o) H := by
  obtain ⟨p, hp, ha, w⟩ := r.own i d hi
  obtain ⟨o, ho, hc⟩ := w.con
  have g : Gr A B 0 F H (upd F p o) H := Gr.freeze r.ex ha w.out ho
  have il : i < ε.length := (List.getElem?_eq_some_iff.mp hi).1
  refine ⟨p, o, w.out, w.nb, ho, hc, ⟨g.sub, by rw [List.length_set, r.len], fun j e q => ?_, fun j e q => ?_, fun j k d1 d2 q h1 h2 h3 h4 => ?_, g.bF r.bx, r.new, fun j e q => ?_⟩, g⟩
  · by_cases z : i = j
    · subst z
      rw [List.getElem?_set_self il] at q
      cases q
      exact ⟨_, hp, Cont.rep upd_same (hc.mono g.ex)⟩
    · rw [List.getElem?_set_ne z] at q
      obtain ⟨v, h1, h2⟩ := r.val j e q
      exact ⟨v, h1, h2.mono g.ex⟩
  · by_cases z : i = j
    · subst z
      rw [List.getElem?_set_self il] at q
      cases q
    · rw [List.getElem?_set_ne z] at q
      obtain ⟨p2, h1, h2, h3⟩ := r.own j e q
      obtain ⟨o2, h4, h5⟩ := h3.con
      refine ⟨p2, h1, h2, ?_, h3.nb, o2, h4, h5.mono g.ex⟩
      rw [upd_ne]
      · exact h3.out
      · intro e2
        subst e2
        exact z (r.sep i j d e p2 hi q hp h1)
  · by_cases z : i = j
    · subst z
      rw [List.getElem?_set_self il] at h1
      cases h1
    · by_cases z2 : i = k
      · subst z2
        rw [List.getElem?_set_self il] at h2
        cases h2
      · rw [List.getElem?_set_ne z] at h1
        rw [List.getElem?_set_ne z2] at h2
        exact r.sep j k d1 d2 q h1 h2 h3 h4
  · by_cases z : i = j
    · subst z
      rw [List.getElem?_set_self il] at q
      cases q
    · rw [List.getElem?_set_ne z] at q
      exact r.raw j e q
theorem Rs.freeze (r : Rs A B F H σ ε) {i : Nat} {d : Dat} (hi : ε[i]? = some (.own d)) : ∃ F', Rs A B F' H σ (ε.set i (.val d)) ∧ Gr A B 0 F H F' H := by
  obtain ⟨p, o, _, _, _, _, h1, h2⟩ := r.freezeAt hi
  exact ⟨_, h1, h2⟩
end

/-! ### the lifted judgements -/
inductive Md | rep | sh | fr
def Res : Md → BB → Hp → Hp → Hp → V → Dat → Prop
  | .rep, B, _, F', _, v, d => Rep B F' v d
  | .sh, B, _, F', H', v, d => Rep B F' v d ∨ ∃ p, v = .ref p ∧ Ow B F' H' p d
  | .fr, B, H, F', H', v, d => ∃ p, v = .ref p ∧ Ow B F' H' p d ∧ H p = none
abbrev TD := Ev → (Dat → Prop) → Prop
abbrev TTD := Ev → (Bool → Prop) → Prop
abbrev TAD := Ev → (List Dat → Prop) → Prop
def lift (m : Md) (c : Nat) (T : TD) : TE := fun σ H Q => ∃ (A : Addr → Prop) (B : BB) (F : Hp) (ε : Ev) (P : Dat → Prop) (n : Nat),
  Rs A B F H σ ε ∧ BoxAt B H n ∧ n + c ≤ CAP ∧ T ε P ∧ ∀ v F' H' d, Gr NoA B c F H F' H' → Res m B H F' H' v d → P d → Q v H'
def liftT (c : Nat) (T : TTD) : TT := fun σ H Q => ∃ (A : Addr → Prop) (B : BB) (F : Hp) (ε : Ev) (P : Bool → Prop) (n : Nat),
  Rs A B F H σ ε ∧ BoxAt B H n ∧ n + c ≤ CAP ∧ T ε P ∧ ∀ b F' H', Gr NoA B c F H F' H' → P b → Q b H'
def liftA (c : Nat) (T : TAD) : TA := fun σ H Q => ∃ (A : Addr → Prop) (B : BB) (F : Hp) (ε : Ev) (P : List Dat → Prop) (n : Nat),
  Rs A B F H σ ε ∧ BoxAt B H n ∧ n + c ≤ CAP ∧ T ε P ∧ ∀ vs F' H' ds, Gr NoA B c F H F' H' → Reps B F' vs ds → P ds → Q vs H'
def PD (m : Md) (X : Cx) (c : Nat) (e : Expr) (T : TD) : Prop := PE X e (lift m c T)
def PTD (X : Cx) (c : Nat) (e : Expr) (T : TTD) : Prop := PT X e (liftT c T)
def PWD (X : Cx) (c : Nat) (e : Expr) (T : TTD) : Prop := PW X e (liftT c T)
def PAD (X : Cx) (c : Nat) (es : List Expr) (T : TAD) : Prop := PA X es (liftA c T)
structure DE where
  nx : Ev → Prop
  rt : Dat → Prop
  bk : Ev → Prop := fun _ => False
  ct : Ev → Prop := fun _ => False
abbrev TSD := DE → Ev → Prop
def liftS (c : Nat) (T : TSD) : TS := fun D σ H => ∃ (A : Addr → Prop) (B : BB) (F : Hp) (ε : Ev) (E : DE) (n : Nat),
  Rs A B F H σ ε ∧ BoxAt B H n ∧ n + c ≤ CAP ∧ T E ε ∧
  (∀ F' H' σ' ε', Gr A B c F H F' H' → Rs A B F' H' σ' ε' → E.nx ε' → D.nx σ' H') ∧
  (∀ F' H' σ' ε', Gr A B c F H F' H' → Rs A B F' H' σ' ε' → E.bk ε' → D.bk σ' H') ∧
  (∀ F' H' σ' ε', Gr A B c F H F' H' → Rs A B F' H' σ' ε' → E.ct ε' → D.ct σ' H') ∧
  (∀ v F' H' d, Gr A B c F H F' H' → Rep B F' v d → E.rt d → D.rt v H')
def SD (X : Cx) (c : Nat) (st : Stmt) (T : TSD) : Prop := PS X st (liftS c T)
def SDs (X : Cx) (c : Nat) (st : List Stmt) (T : TSD) : Prop := PSs X st (liftS c T)

section
variable {X : Cx} {e a b : Expr} {m : Md} {c c1 c2 : Nat} {T Ta Tb : TD}
theorem pe_weak {t t' : TE} (h : PE X e t) (w : ∀ σ H Q, t' σ H Q → t σ H Q) : PE X e t' := ⟨fun pins s σ H Q I q => h.run pins s σ H Q I (w σ H Q q)⟩
theorem pt_weak {t t' : TT} (h : PT X e t) (w : ∀ σ H Q, t' σ H Q → t σ H Q) : PT X e t' := ⟨fun pins s σ H Q I q => h.run pins s σ H Q I (w σ H Q q)⟩
theorem pw_weak {t t' : TT} (h : PW X e t) (w : ∀ σ H Q, t' σ H Q → t σ H Q) : PW X e t' := ⟨fun wh pins s σ H Q I q => h.run wh pins s σ H Q I (w σ H Q q)⟩
theorem pa_weak {es : List Expr} {t t' : TA} (h : PA X es t) (w : ∀ σ H Q, t' σ H Q → t σ H Q) : PA X es t' := ⟨fun pos pins s σ H Q I q => h.run pos pins s σ H Q I (w σ H Q q)⟩
theorem ps_weak {st : Stmt} {t t' : TS} (h : PS X st t) (w : ∀ D σ H, t' D σ H → t D σ H) : PS X st t' := ⟨fun pins s σ H D I q => h.run pins s σ H D I (w D σ H q)⟩
theorem pss_weak {st : List Stmt} {t t' : TS} (h : PSs X st t) (w : ∀ D σ H, t' D σ H → t D σ H) : PSs X st t' := ⟨fun pins s σ H D I q => h.run pins s σ H D I (w D σ H q)⟩

theorem Res.sh_of {B : BB} {H F' H' : Hp} {v : V} {d : Dat} : ∀ {m : Md}, Res m B H F' H' v d → Res .sh B H F' H' v d
  | .rep, h => .inl h
  | .sh, h => h
  | .fr, ⟨p, h1, h2, _⟩ => .inr ⟨p, h1, h2⟩
theorem Res.gr {B : BB} {H F1 H1 F2 H2 : Hp} {v : V} {d : Dat} {c : Nat} (h : Res .sh B H F1 H1 v d) (g : Gr NoA B c F1 H1 F2 H2) : Res .sh B H F2 H2 v d := by
  rcases h with h | ⟨p, h1, h2⟩
  · exact .inl (h.mono g.ex)
  · exact .inr ⟨p, h1, h2.gr g⟩
/-- any mode may be read as shallow -/
theorem PD.toSh (h : PD m X c e T) : PD .sh X c e T := pe_weak h fun σ H Q ⟨A, B, F, ε, P, n, r, bx, hn, t, k⟩ => ⟨A, B, F, ε, P, n, r, bx, hn, t, fun v F' H' d g q => k v F' H' d g q.sh_of⟩
/-- a new object may be frozen at once -/
theorem PD.frz (h : PD .fr X c e T) : PD .rep X c e T := pe_weak h fun σ H Q ⟨A, B, F, ε, P, n, r, bx, hn, t, k⟩ => ⟨A, B, F, ε, P, n, r, bx, hn, t, fun v F' H' d g ⟨p, h1, h2, h3⟩ => by
  subst h1
  obtain ⟨o, ho, hc⟩ := h2.con
  refine k _ (upd F' p o) H' d ⟨g.ex.trans (Ex.new h2.out), fun a u q => ?_, fun a u q => ?_, g.keep, g.there, g.box⟩ (Cont.rep upd_same (hc.mono (Ex.new h2.out)))
  · by_cases z : a = p
    · subst z; rw [upd_same] at q; rw [← q]; exact ho
    · rw [upd_ne z] at q; exact g.sub a u q
  · by_cases z : a = p
    · subst z; exact .inr (.inl h3)
    · rw [upd_ne z] at q; exact g.new a u q⟩
theorem PD.cost (h : PD m X c e T) (hc : c ≤ c1) : PD m X c1 e T := pe_weak h fun σ H Q ⟨A, B, F, ε, P, n, r, bx, hn, t, k⟩ => ⟨A, B, F, ε, P, n, r, bx, by omega, t, fun v F' H' d g q => k v F' H' d (g.mono hc) q⟩
theorem PD.imp {T' : TD} (h : PD m X c e T) (hi : ∀ ε P, T' ε P → T ε P) : PD m X c e T' := pe_weak h fun σ H Q ⟨A, B, F, ε, P, n, r, bx, hn, t, k⟩ => ⟨A, B, F, ε, P, n, r, bx, hn, hi _ _ t, k⟩

/-! ### names and constants -/
def dVar (i : Nat) : TD := fun ε P => ∃ d, ε[i]? = some (.val d) ∧ P d
def dVarS (i : Nat) : TD := fun ε P => ∃ d, (ε[i]? = some (.val d) ∨ ε[i]? = some (.own d)) ∧ P d
def dC (d : Dat) : TD := fun _ P => P d
theorem pd_var {i : Nat} {x : Str} {pos : Pos} (h : PE X (.Name x pos) (tVar i)) : PD .rep X 0 (.Name x pos) (dVar i) := pe_weak h fun σ H Q ⟨A, B, F, ε, P, n, r, bx, hn, ⟨d, e, p⟩, k⟩ => by
  obtain ⟨v, h1, h2⟩ := r.val i d e
  exact ⟨v, h1, k v F H d (Gr.refl r.ex) h2 p⟩
theorem pd_varS {i : Nat} {x : Str} {pos : Pos} (h : PE X (.Name x pos) (tVar i)) : PD .sh X 0 (.Name x pos) (dVarS i) := pe_weak h fun σ H Q ⟨A, B, F, ε, P, n, r, bx, hn, ⟨d, e, p⟩, k⟩ => by
  rcases e with e | e
  · obtain ⟨v, h1, h2⟩ := r.val i d e
    exact ⟨v, h1, k v F H d (Gr.refl r.ex) (.inl h2) p⟩
  · obtain ⟨q, h1, _, h2⟩ := r.own i d e
    exact ⟨_, h1, k _ F H d (Gr.refl r.ex) (.inr ⟨q, rfl, h2⟩) p⟩
theorem pd_c {v : V} {d : Dat} (h : PE X e (tC v)) (r : ∀ B F, Rep B F v d) : PD .rep X 0 e (dC d) := pe_weak h fun σ H Q ⟨A, B, F, ε, P, n, rs, bx, hn, p, k⟩ => k v F H d (Gr.refl rs.ex) (r B F) p
theorem pd_int {i : Int} {j pos} : PD .rep X 0 (.Constant (.int i) j pos) (dC (.int i)) := pd_c pe_int fun _ _ => .int
theorem pd_bl {b : Bool} {j pos} : PD .rep X 0 (.Constant (.bool b) j pos) (dC (.bl b)) := pd_c pe_bl fun _ _ => .bl
theorem pd_non {j pos} : PD .rep X 0 (.Constant .none j pos) (dC .non) := pd_c pe_non fun _ _ => .non
theorem pd_str {x : Str} {j pos} : PD .rep X 0 (.Constant (.str x) j pos) (dC (.str x)) := pd_c pe_str fun _ _ => .str

/-! ### operators by values -/
/-- what an operation on values does, by data: from shallow operands to a result of mode m -/
def OpD (m : Md) (r : R2) (f : Dat → Dat → (Dat → Prop) → Prop) : Prop := ∀ (B : BB) (F H Hb : Hp) (x y : V) (d e : Dat) (P : Dat → Prop) (Q : VK), Ex F H → (∀ a, H a = none → Hb a = none) → (∀ b, B.has b → ∃ o, H b = some o) → Res .sh B Hb F H x d → Res .sh B Hb F H y e → f d e P →
  (∀ v F' H' z, Gr NoA B 0 F H F' H' → Res m B Hb F' H' v z → P z → Q v H') → r x y H Q
def dOp (f : Dat → Dat → (Dat → Prop) → Prop) (Ta Tb : TD) : TD := fun ε P => Ta ε fun d => Tb ε fun e => f d e P
theorem op_run {r : R2} {f : Dat → Dat → (Dat → Prop) → Prop} (hr : OpD m r f) : ∀ σ H Q, lift m (c1 + c2) (dOp f Ta Tb) σ H Q → tOp r (lift .sh c1 Ta) (lift .sh c2 Tb) σ H Q := fun σ H Q ⟨A, B, F, ε, P, n, rs, bx, hn, t, k⟩ => by
  refine ⟨A, B, F, ε, _, n, rs, bx, by omega, t, fun x F1 H1 d g1 q1 t1 => ?_⟩
  refine ⟨A, B, F1, ε, _, n + c1, rs.gr g1, g1.box n bx, by omega, t1, fun y F2 H2 e g2 q2 t2 => ?_⟩
  have rs2 := (rs.gr g1).gr g2
  refine hr B F2 H2 H x y d e P Q rs2.ex (fun a h => g1.free (g2.free h)) (fun b hb => (rs2.bx b hb).2.2) (q1.gr g2) q2 t2 fun v F3 H3 z g3 q3 p3 => ?_
  exact k v F3 H3 z ((g1.trans g2).trans g3) q3 p3
theorem pd_op {op : Operator} {r : R2} {f : Dat → Dat → (Dat → Prop) → Prop} {pos : Pos} (ho : OpR X (binaryOp op) r) (hr : OpD m r f) (ha : PD .sh X c1 a Ta) (hb : PD .sh X c2 b Tb) : PD m X (c1 + c2) (.BinOp a op b pos) (dOp f Ta Tb) :=
  pe_weak (pe_op ho ha hb) (op_run hr)
theorem pd_cmp {op : CmpOp} {r : R2} {f : Dat → Dat → (Dat → Prop) → Prop} {pos : Pos} (ho : OpR X (compareOp op) r) (hr : OpD m r f) (ha : PD .sh X c1 a Ta) (hb : PD .sh X c2 b Tb) (hm : behindInMarks op b = false) : PD m X (c1 + c2) (.Compare a [op] [b] pos) (dOp f Ta Tb) :=
  pe_weak (pe_cmpR ho ha hb hm) (op_run hr)
theorem pd_ix {r : R2} {f : Dat → Dat → (Dat → Prop) → Prop} {pos : Pos} (ho : IxR X r) (hr : OpD m r f) (ha : PD .sh X c1 a Ta) (hb : PD .sh X c2 b Tb) (hs : PlainIx b) : PD m X (c1 + c2) (.Subscript a b pos) (dOp f Ta Tb) :=
  pe_weak (pe_ix ho ha hb hs) (op_run hr)
end
end DL
set_option maxRecDepth 100000
set_option maxHeartbeats 1000000
/-! DL2: statements, arguments, calls, a def's promise by data. -/
namespace DL
open PySem L2
variable [TabC]

section
variable {X : Cx} {st : Stmt} {rest body : List Stmt} {e a b t0 : Expr} {m : Md} {c c1 c2 c3 : Nat} {T Ta Tb : TD} {Ts Tr Tu : TSD} {Tt : TTD} {pos : Pos}

/-! ### blocks -/
def sNext : TSD := fun E ε => E.nx ε
def sSeq (T U : TSD) : TSD := fun E ε => T { E with nx := U E } ε
theorem SD.cost (h : SD X c st Ts) (hc : c ≤ c1) : SD X c1 st Ts := ps_weak h fun D σ H ⟨A, B, F, ε, E, n, r, bx, hn, t, k1, k2, k3, k4⟩ =>
  ⟨A, B, F, ε, E, n, r, bx, by omega, t, fun F' H' σ' ε' g => k1 F' H' σ' ε' (g.mono hc), fun F' H' σ' ε' g => k2 F' H' σ' ε' (g.mono hc), fun F' H' σ' ε' g => k3 F' H' σ' ε' (g.mono hc), fun v F' H' d g => k4 v F' H' d (g.mono hc)⟩
theorem SDs.cost (h : SDs X c rest Ts) (hc : c ≤ c1) : SDs X c1 rest Ts := pss_weak h fun D σ H ⟨A, B, F, ε, E, n, r, bx, hn, t, k1, k2, k3, k4⟩ =>
  ⟨A, B, F, ε, E, n, r, bx, by omega, t, fun F' H' σ' ε' g => k1 F' H' σ' ε' (g.mono hc), fun F' H' σ' ε' g => k2 F' H' σ' ε' (g.mono hc), fun F' H' σ' ε' g => k3 F' H' σ' ε' (g.mono hc), fun v F' H' d g => k4 v F' H' d (g.mono hc)⟩
theorem SDs.imp {T' : TSD} (h : SDs X c rest Ts) (hi : ∀ E ε, T' E ε → Ts E ε) : SDs X c rest T' := pss_weak h fun D σ H ⟨A, B, F, ε, E, n, r, bx, hn, t, k⟩ => ⟨A, B, F, ε, E, n, r, bx, hn, hi _ _ t, k⟩
theorem sds_nil : SDs X 0 [] sNext := pss_weak pss_nil fun D σ H ⟨A, B, F, ε, E, n, r, bx, hn, t, k1, _⟩ => k1 F H σ ε (Gr.refl r.ex) r t
theorem sds_one (h : SD X c st Ts) : SDs X c [st] Ts := pss_one h
theorem sds_cons (h : SD X c1 st Ts) (h2 : SDs X c2 rest Tr) : SDs X (c1 + c2) (st :: rest) (sSeq Ts Tr) :=
  pss_weak (pss_cons h h2) fun D σ H ⟨A, B, F, ε, E, n, r, bx, hn, t, k1, k2, k3, k4⟩ =>
    ⟨A, B, F, ε, { E with nx := Tr E }, n, r, bx, by omega, t, fun F1 H1 σ1 ε1 g1 r1 t1 => ⟨A, B, F1, ε1, E, n + c1, r1, g1.box n bx, by omega, t1,
      fun F' H' σ' ε' g => k1 F' H' σ' ε' (g1.trans g), fun F' H' σ' ε' g => k2 F' H' σ' ε' (g1.trans g), fun F' H' σ' ε' g => k3 F' H' σ' ε' (g1.trans g), fun v F' H' d g => k4 v F' H' d (g1.trans g)⟩,
      fun F' H' σ' ε' g => k2 F' H' σ' ε' (g.mono (by omega)), fun F' H' σ' ε' g => k3 F' H' σ' ε' (g.mono (by omega)), fun v F' H' d g => k4 v F' H' d (g.mono (by omega))⟩

/-! ### simple statements -/
def sPass : TSD := fun E ε => E.nx ε
theorem sd_pass : SD X 0 (.Pass pos) sPass := ps_weak ps_pass fun D σ H ⟨A, B, F, ε, E, n, r, bx, hn, t, k1, _⟩ => k1 F H σ ε (Gr.refl r.ex) r t
def sBreak : TSD := fun E ε => E.bk ε
theorem sd_break : SD X 0 (.Break pos) sBreak := ps_weak ps_break fun D σ H ⟨A, B, F, ε, E, n, r, bx, hn, t, _, k2, _⟩ => k2 F H σ ε (Gr.refl r.ex) r t
def sCont : TSD := fun E ε => E.ct ε
theorem sd_cont : SD X 0 (.Continue pos) sCont := ps_weak ps_continue fun D σ H ⟨A, B, F, ε, E, n, r, bx, hn, t, _, _, k3, _⟩ => k3 F H σ ε (Gr.refl r.ex) r t
def sNever : TSD := fun _ _ => False
theorem sd_never : SD X 0 st sNever := ps_weak ps_never fun D σ H ⟨A, B, F, ε, E, n, r, bx, hn, t, _⟩ => t
def sRet (T : TD) : TSD := fun E ε => T ε E.rt
theorem sd_ret (h : PD .rep X c e T) : SD X c (.Return (some e) pos) (sRet T) := ps_weak (ps_ret h) fun D σ H ⟨A, B, F, ε, E, n, r, bx, hn, t, _, _, _, k4⟩ =>
  ⟨A, B, F, ε, _, n, r, bx, hn, t, fun v F' H' d g q p => k4 v F' H' d g.any q p⟩
def sRetN : TSD := fun E _ => E.rt .non
theorem sd_retN : SD X 0 (.Return none pos) sRetN := ps_weak ps_retN fun D σ H ⟨A, B, F, ε, E, n, r, bx, hn, t, _, _, _, k4⟩ => k4 .non F H .non (Gr.refl r.ex) .non t
/-- an expression for what it does -/
def sDrop (T : TD) : TSD := fun E ε => T ε fun _ => E.nx ε
theorem sd_drop (h : PD m X c e T) (hs : swapsWith e none pos.line X.env = pure false := by rfl) : SD X c (.Expr e pos) (sDrop T) := ps_weak (ps_expr h hs) fun D σ H ⟨A, B, F, ε, E, n, r, bx, hn, t, k1, _⟩ =>
  ⟨A, B, F, ε, _, n, r, bx, hn, t, fun v F' H' d g q p => k1 F' H' σ ε g.any (r.gr g) p⟩
def sIf (Tt : TTD) (Ts Tu : TSD) : TSD := fun E ε => Tt ε fun b => if b = true then Ts E ε else Tu E ε
theorem sd_if {ss us : List Stmt} (ht : PTD X c1 t0 Tt) (hs : SDs X c2 ss Ts) (hu : SDs X c3 us Tu) : SD X (c1 + (c2 + c3)) (.If t0 ss us pos) (sIf Tt Ts Tu) :=
  ps_weak (ps_if ht hs hu) fun D σ H ⟨A, B, F, ε, E, n, r, bx, hn, t, k1, k2, k3, k4⟩ => by
    refine ⟨A, B, F, ε, _, n, r, bx, by omega, t, fun b F1 H1 g1 p => ?_⟩
    cases b with
    | true =>
      exact ⟨A, B, F1, ε, E, n + c1, r.gr g1, g1.box n bx, by omega, p, fun F' H' σ' ε' g => k1 F' H' σ' ε' ((g1.any.trans g).mono (by omega)), fun F' H' σ' ε' g => k2 F' H' σ' ε' ((g1.any.trans g).mono (by omega)),
        fun F' H' σ' ε' g => k3 F' H' σ' ε' ((g1.any.trans g).mono (by omega)), fun v F' H' d g => k4 v F' H' d ((g1.any.trans g).mono (by omega))⟩
    | false =>
      exact ⟨A, B, F1, ε, E, n + c1, r.gr g1, g1.box n bx, by omega, p, fun F' H' σ' ε' g => k1 F' H' σ' ε' ((g1.any.trans g).mono (by omega)), fun F' H' σ' ε' g => k2 F' H' σ' ε' ((g1.any.trans g).mono (by omega)),
        fun F' H' σ' ε' g => k3 F' H' σ' ε' ((g1.any.trans g).mono (by omega)), fun v F' H' d g => k4 v F' H' d ((g1.any.trans g).mono (by omega))⟩
/-- ghost: the owned list at slot i is from now on a value that stays -/
def sFrz (i : Nat) (T : TSD) : TSD := fun E ε => ∃ d, ε[i]? = some (.own d) ∧ T E (ε.set i (.val d))
theorem SD.frz (i : Nat) (h : SD X c st Ts) : SD X c st (sFrz i Ts) := ps_weak h fun D σ H ⟨A, B, F, ε, E, n, r, bx, hn, ⟨d, hd, t⟩, k1, k2, k3, k4⟩ => by
  obtain ⟨F', r', g0⟩ := r.freeze hd
  refine ⟨A, B, F', _, E, n, r', bx, hn, t, fun F2 H2 σ2 ε2 g => k1 F2 H2 σ2 ε2 ((g0.trans g).mono (by omega)), fun F2 H2 σ2 ε2 g => k2 F2 H2 σ2 ε2 ((g0.trans g).mono (by omega)), fun F2 H2 σ2 ε2 g => k3 F2 H2 σ2 ε2 ((g0.trans g).mono (by omega)), fun v F2 H2 d g => k4 v F2 H2 d ((g0.trans g).mono (by omega))⟩

/-! ### stores to names -/
def sAsg (i : Nat) (T : TD) : TSD := fun E ε => T ε fun d => E.nx (ε.set i (.val d))
def sAsgO (i : Nat) (T : TD) : TSD := fun E ε => T ε fun d => E.nx (ε.set i (.own d))
theorem asg_run {i : Nat} : ∀ D σ H, liftS c (sAsg i T) D σ H → tAsg (lift .rep c T) (gName i) D σ H := fun D σ H ⟨A, B, F, ε, E, n, r, bx, hn, t, k1, _⟩ =>
  ⟨A, B, F, ε, _, n, r, bx, hn, t, fun v F' H' d g q p => k1 F' H' _ _ g.any ((r.gr g).setVal q) p⟩
theorem asgO_run {i : Nat} : ∀ D σ H, liftS c (sAsgO i T) D σ H → tAsg (lift .fr c T) (gName i) D σ H := fun D σ H ⟨A, B, F, ε, E, n, r, bx, hn, t, k1, _⟩ =>
  ⟨A, B, F, ε, _, n, r, bx, hn, t, fun v F' H' d g ⟨p, hv, w, hp⟩ q => by
    subst hv
    refine k1 F' H' _ _ g.any ((r.gr g).setOwn (r.new p hp) w fun j e h1 h2 => ?_) q
    obtain ⟨p', h3, _, w'⟩ := r.own j e h1
    rw [h2] at h3
    cases h3
    obtain ⟨o, ho, _⟩ := w'.con
    rw [hp] at ho
    cases ho⟩
theorem sd_asg {i : Nat} {x : Str} {pos' : Pos} (h : PD .rep X c e T) (hN : X.N.Nodup) (hi : X.N[i]? = some x) (hx : Loc X.env.scope x) (hs : swapsWith e (some (.Name x pos')) pos.line X.env = pure false := by rfl)
    (hf : X.fn x = true ∨ X.env.scope.names.lookup x = some .local := by first | exact .inl rfl | exact .inr rfl | assumption) : SD X c (.Assign [.Name x pos'] e pos) (sAsg i T) :=
  ps_weak (ps_set hN hi hx h hs hf) asg_run
theorem sd_asgO {i : Nat} {x : Str} {pos' : Pos} (h : PD .fr X c e T) (hN : X.N.Nodup) (hi : X.N[i]? = some x) (hx : Loc X.env.scope x) (hs : swapsWith e (some (.Name x pos')) pos.line X.env = pure false := by rfl)
    (hf : X.fn x = true ∨ X.env.scope.names.lookup x = some .local := by first | exact .inl rfl | exact .inr rfl | assumption) : SD X c (.Assign [.Name x pos'] e pos) (sAsgO i T) :=
  ps_weak (ps_set hN hi hx h hs hf) asgO_run

/-! ### argument lists -/
def aNil : TAD := fun _ P => P []
def aCons (T : TD) (U : TAD) : TAD := fun ε P => T ε fun d => U ε fun ds => P (d :: ds)
theorem pad_nil : PAD X 0 [] aNil := pa_weak pa_nil fun σ H Q ⟨A, B, F, ε, P, n, r, bx, hn, t, k⟩ => k [] F H [] (Gr.refl r.ex) .nil t
theorem pad_cons {es : List Expr} {U : TAD} (h : PD .rep X c1 e T) (h2 : PAD X c2 es U) (hs : starEach (e :: es) X.env = (false, eval e X.env) :: starEach es X.env := by rfl) : PAD X (c1 + c2) (e :: es) (aCons T U) := pa_weak (pa_cons h h2 hs) fun σ H Q ⟨A, B, F, ε, P, n, r, bx, hn, t, k⟩ =>
  ⟨A, B, F, ε, _, n, r, bx, by omega, t, fun v F1 H1 d g1 q1 t1 => ⟨A, B, F1, ε, _, n + c1, r.gr g1, g1.box n bx, by omega, t1, fun vs F2 H2 ds g2 q2 p => k (v :: vs) F2 H2 (d :: ds) (g1.trans g2) (.cons (q1.mono g2.ex) q2) p⟩⟩

/-! ### several values, each with its mode: for stores to several names, for built-ins -/
def frs : List Md → List V → List V
  | .fr :: ms, v :: vs => v :: frs ms vs
  | _ :: ms, _ :: vs => frs ms vs
  | _, _ => []
inductive ResL (B : BB) (Hb F H : Hp) : List Md → List V → List Dat → Prop
  | nil : ResL B Hb F H [] [] []
  | cons {m ms v vs d ds} : Res m B Hb F H v d → (m = .fr → v ∉ frs ms vs) → ResL B Hb F H ms vs ds → ResL B Hb F H (m :: ms) (v :: vs) (d :: ds)
def liftM (ms : List Md) (c : Nat) (T : TAD) : TA := fun σ H Q => ∃ (A : Addr → Prop) (B : BB) (F : Hp) (ε : Ev) (P : List Dat → Prop) (n : Nat),
  Rs A B F H σ ε ∧ BoxAt B H n ∧ n + c ≤ CAP ∧ T ε P ∧ ∀ vs F' H' ds, Gr NoA B c F H F' H' → ResL B H F' H' ms vs ds → P ds → Q vs H'
def PMD (ms : List Md) (X : Cx) (c : Nat) (es : List Expr) (T : TAD) : Prop := PA X es (liftM ms c T)
theorem pmd_nil : PMD [] X 0 [] aNil := pa_weak pa_nil fun σ H Q ⟨A, B, F, ε, P, n, r, bx, hn, t, k⟩ => k [] F H [] (Gr.refl r.ex) .nil t
theorem Res.grM {B : BB} {Hb F1 H1 F2 H2 : Hp} {v : V} {d : Dat} {c : Nat} : ∀ {m : Md}, Res m B Hb F1 H1 v d → Gr NoA B c F1 H1 F2 H2 → Res m B Hb F2 H2 v d
  | .rep, h, g => Rep.mono g.ex h
  | .sh, h, g => Res.gr h g
  | .fr, ⟨p, h1, h2, h3⟩, g => ⟨p, h1, h2.gr g, h3⟩
theorem frs_fresh {B : BB} {Hb F H : Hp} : ∀ {ms vs ds}, ResL B Hb F H ms vs ds → ∀ v ∈ frs ms vs, ∃ p, v = .ref p ∧ Hb p = none
  | _, _, _, .nil, v, h => by simp [frs] at h
  | .fr :: ms, _ :: vs, _ :: ds, .cons r _ t, v, h => by
    rcases List.mem_cons.mp (show v ∈ _ :: frs ms vs from h) with e | h
    · obtain ⟨p, h1, _, h3⟩ := r
      exact ⟨p, e.trans h1, h3⟩
    · exact frs_fresh t v h
  | .rep :: ms, _ :: vs, _ :: ds, .cons r _ t, v, h => frs_fresh t v h
  | .sh :: ms, _ :: vs, _ :: ds, .cons r _ t, v, h => frs_fresh t v h
theorem pmd_cons {ms : List Md} {es : List Expr} {U : TAD} (h : PD m X c1 e T) (h2 : PMD ms X c2 es U) (hs : starEach (e :: es) X.env = (false, eval e X.env) :: starEach es X.env := by rfl) : PMD (m :: ms) X (c1 + c2) (e :: es) (aCons T U) := pa_weak (pa_cons h h2 hs) fun σ H Q ⟨A, B, F, ε, P, n, r, bx, hn, t, k⟩ =>
  ⟨A, B, F, ε, _, n, r, bx, by omega, t, fun v F1 H1 d g1 q1 t1 => ⟨A, B, F1, ε, _, n + c1, r.gr g1, g1.box n bx, by omega, t1, fun vs F2 H2 ds g2 q2 p => by
    refine k (v :: vs) F2 H2 (d :: ds) (g1.trans g2) (.cons (q1.grM g2) (fun em hv => ?_) ?_) p
    · subst em
      obtain ⟨p, h1, h2, _⟩ := q1
      obtain ⟨p', h3, h4⟩ := frs_fresh q2 v hv
      rw [h1] at h3
      cases h3
      obtain ⟨o, ho, _⟩ := h2.con
      rw [h4] at ho
      cases ho
    · have up : ∀ {ms vs ds}, ResL B H1 F2 H2 ms vs ds → ResL B H F2 H2 ms vs ds := by
        intro ms vs ds z
        induction z with
        | nil => exact .nil
        | @cons m ms v vs d ds r1 r2 _ ih =>
          refine .cons ?_ r2 ih
          cases m with
          | rep => exact r1
          | sh => exact r1
          | fr =>
            obtain ⟨p, h1, h2, h3⟩ := r1
            exact ⟨p, h1, h2, g1.free h3⟩
      exact up q2⟩⟩
def setsV : List Nat → List V → L2.St → L2.St
  | i :: is, v :: vs, σ => setsV is vs (σ.set i (some v))
  | _, _, σ => σ
def setM : List Nat → List Md → List Dat → Ev → Ev
  | i :: is, .fr :: ms, d :: ds, ε => setM is ms ds (ε.set i (.own d))
  | i :: is, _ :: ms, d :: ds, ε => setM is ms ds (ε.set i (.val d))
  | _, _, _, ε => ε
/-- no mode is shallow -/
def noSh : List Md → Bool
  | [] => true
  | .sh :: _ => false
  | _ :: ms => noSh ms
theorem sets_ok {A : Addr → Prop} {B : BB} {Hb F H : Hp} (hA : ∀ a, Hb a = none → A a) : ∀ (is : List Nat) {ms : List Md} {vs : List V} {ds : List Dat} {σ : L2.St} {ε : Ev}, noSh ms = true → Rs A B F H σ ε → ResL B Hb F H ms vs ds →
    (∀ v ∈ frs ms vs, ∀ (j : Nat) (e : Dat), ε[j]? = some (Sl.own e) → σ[j]? = some (some v) → False) → Rs A B F H (setsV is vs σ) (setM is ms ds ε)
  | [], _, _, _, _, _, _, r, _, _ => by
    cases ‹List V› <;> cases ‹List Md› <;> cases ‹List Dat› <;> exact r
  | i :: is, [], _, _, _, _, _, r, .nil, _ => r
  | i :: is, .rep :: ms, v :: vs, d :: ds, σ, ε, hs, r, .cons q _ t, h => by
    refine sets_ok hA is (show noSh ms = true from hs) (r.setVal q) t fun w hw j e h1 h2 => ?_
    by_cases z : i = j
    · subst z
      have hi : i < ε.length := by
        have := (List.getElem?_eq_some_iff.mp h1).1
        rwa [List.length_set] at this
      rw [List.getElem?_set_self hi] at h1
      cases h1
    · rw [List.getElem?_set_ne z] at h1 h2
      exact h w hw j e h1 h2
  | i :: is, .fr :: ms, v :: vs, d :: ds, σ, ε, hs, r, .cons q nf t, h => by
    obtain ⟨p, hv, w, hp⟩ := q
    subst hv
    refine sets_ok hA is (show noSh ms = true from hs) (r.setOwn (hA p hp) w fun j e h1 h2 => (h _ (List.mem_cons_self) j e h1 h2).elim) t fun w' hw j e h1 h2 => ?_
    by_cases z : i = j
    · subst z
      have hi : i < σ.length := by
        have := (List.getElem?_eq_some_iff.mp h2).1
        rwa [List.length_set] at this
      rw [List.getElem?_set_self hi] at h2
      cases h2
      exact nf rfl hw
    · rw [List.getElem?_set_ne z] at h1 h2
      exact h w' (List.mem_cons_of_mem _ hw) j e h1 h2
def sMul (is : List Nat) (ms : List Md) (T : TAD) : TSD := fun E ε => T ε fun ds => E.nx (setM is ms ds ε)
theorem mul_end {A : Addr → Prop} {B : BB} {F H F' H' : Hp} {σ : L2.St} {ε : Ev} {is : List Nat} {ms : List Md} {vs : List V} {ds : List Dat} (hs : noSh ms = true) (r : Rs A B F H σ ε) (g : Gr NoA B c F H F' H') (q : ResL B H F' H' ms vs ds) : Rs A B F' H' (setsV is vs σ) (setM is ms ds ε) :=
  sets_ok r.new is hs (r.gr g) q fun v hv j e h1 h2 => by
    obtain ⟨p, hp, hn⟩ := frs_fresh q v hv
    subst hp
    obtain ⟨p', h3, _, w⟩ := r.own j e h1
    rw [h2] at h3
    cases h3
    obtain ⟨o, ho, _⟩ := w.con
    rw [hn] at ho
    cases ho
theorem ResL.len {B : BB} {Hb F H : Hp} : ∀ {ms vs ds}, ResL B Hb F H ms vs ds → vs.length = ms.length ∧ ds.length = ms.length
  | _, _, _, .nil => ⟨rfl, rfl⟩
  | _, _, _, .cons _ _ t => by simp [t.len]
/-- a, b = e1, e2, both names local -/
theorem sd_par {i j : Nat} {m1 m2 : Md} {x y : Str} {T : TAD} {px py pt : Pos} {kt k2 pt2} (h : PMD [m1, m2] X c [a, b] T) (hm : noSh [m1, m2] = true) (hc : X.calm = true) (hN : X.N.Nodup) (hi : X.N[i]? = some x) (hj : X.N[j]? = some y) (hij : i ≠ j)
    (hx : X.env.scope.names.lookup x = some .local) (hy : X.env.scope.names.lookup y = some .local)
    (hw : swappedStores [.Tuple [.Name x px, .Name y py] kt pt] (.Tuple [a, b] k2 pt2) X.env = pure (some [x, y])) (hs : swapsWithSole [.Tuple [.Name x px, .Name y py] kt pt] (.Tuple [a, b] k2 pt2) pos.line X.env = pure false := by rfl) :
    SD X c (.Assign [.Tuple [.Name x px, .Name y py] kt pt] (.Tuple [a, b] k2 pt2) pos) (sMul [i, j] [m1, m2] T) :=
  ps_weak (ps_par hc hN hi hj hij hx hy h hw hs) fun D σ H ⟨A, B, F, ε, E, n, r, bx, hn, t, k1, _⟩ => ⟨A, B, F, ε, _, n, r, bx, hn, t, fun vs F' H' ds g q p => by
    have := mul_end (is := [i, j]) hm r g q
    cases q with
    | cons q1 q2 q3 =>
      cases q3 with
      | cons q4 q5 q6 =>
        cases q6
        exact ⟨_, _, rfl, k1 F' H' _ _ g.any this p⟩⟩
/-- several names through a tuple -/
def gNames : List Nat → TGs
  | [] => gNil
  | i :: is => gCons (gName i) (gNames is)
theorem gNames_run : ∀ (is : List Nat) {vs : List V} {σ : L2.St} {H : Hp} {Q : L2.St → Hp → Prop}, vs.length = is.length → Q (setsV is vs σ) H → gNames is vs σ H Q
  | [], [], _, _, _, _, h => ⟨rfl, h⟩
  | i :: is, v :: vs, σ, H, Q, hl, h => ⟨v, vs, rfl, gNames_run is (by simpa using hl) h⟩
theorem sd_mul {is : List Nat} {ms : List Md} {T : TAD} {ts es : List Expr} {kt k2 : Nat} {pt pt2 : Pos} {xN : Nat} (h : PMD ms X c es T) (hm : noSh ms = true) (hl : ms.length = is.length) (hc : X.calm = true) (hg : PGs X ts (gNames is)) (hlt : (assignEach ts X.env).length = is.length := by rfl) (hst : (assignEach ts X.env).findIdx? (·.1) = none := by rfl)
    (hs : swapsWithSole [.Tuple ts kt pt] (.Tuple es k2 pt2) pos.line X.env = pure false := by rfl) (hw : swappedStores [.Tuple ts kt pt] (.Tuple es k2 pt2) X.env = pure none := by rfl)
    (h1 : (assignEach [.Tuple ts kt pt] X.env).map (·.2) = [assign (.Tuple ts kt pt) X.env] := by rfl) (hsz : is.length ≤ sizeLine := by decide) :
    SD X c (.Assign [.Tuple ts kt pt] (.Tuple es k2 pt2) pos) (sMul is ms T) :=
  ps_weak (ps_asg (pe_tup h) (pg_tup hc hg hlt hst) hs hw h1) fun D σ H ⟨A, B, F, ε, E, n, r, bx, hn, t, k1, _⟩ => ⟨A, B, F, ε, _, n, r, bx, hn, t, fun vs F' H' ds g q p => by
    have hv := q.len
    refine ⟨by rw [hv.1, hl]; exact hsz, fun p0 hp => ?_⟩
    refine ⟨p0, vs, rfl, SqT.of upd_same, by rw [hv.1, hl], gNames_run is (by rw [hv.1, hl]) ?_⟩
    have g0 : Gr NoA B 0 F' H' F' (upd H' p0 (.tup vs)) := Gr.alloc0 (r.gr g).ex hp
    have up : ∀ {ms vs' ds}, ResL B H F' H' ms vs' ds → ResL B H F' (upd H' p0 (.tup vs)) ms vs' ds := by
      intro ms vs' ds z
      induction z with
      | nil => exact .nil
      | cons r1 r2 _ ih => exact .cons (r1.grM g0) r2 ih
    exact k1 F' _ _ _ (g.trans g0).any (mul_end hm r (g.trans g0) (up q)) p⟩
end
end DL
set_option maxRecDepth 100000
set_option maxHeartbeats 1000000
/-! DL3: targets, walks, loops, comprehensions. -/
namespace DL
open PySem L2
variable [TabC]

/-! ### wiping -/
theorem wipe_get (σ : L2.St) : ∀ (vs : List Nat) (j : Nat), (L2.wipe σ vs)[j]? = if j ∈ vs then (if j < σ.length then some none else none) else σ[j]?
  | [], j => by simp [L2.wipe]
  | v :: vs, j => by
    show ((L2.wipe σ vs).set v none)[j]? = _
    rw [List.getElem?_set]
    by_cases h : v = j
    · subst h
      simp [wipe_length]
    · rw [if_neg h, wipe_get σ vs j]
      have : (j ∈ v :: vs) ↔ j ∈ vs := by simp [Ne.symm h]
      simp only [this]
theorem wipe_set {σ : L2.St} {i : Nat} {x : Option V} {vs : List Nat} (h : i ∈ vs) : L2.wipe (σ.set i x) vs = L2.wipe σ vs := by
  apply List.ext_getElem?
  intro j
  rw [wipe_get, wipe_get, List.length_set]
  by_cases hj : j ∈ vs
  · simp [hj]
  · have : i ≠ j := fun e => hj (e ▸ h)
    simp [hj, List.getElem?_set_ne this]
theorem wipe_wipe {σ : L2.St} {vs : List Nat} : L2.wipe (L2.wipe σ vs) vs = L2.wipe σ vs := by
  apply List.ext_getElem?
  intro j
  rw [wipe_get, wipe_get, wipe_length]
  by_cases hj : j ∈ vs <;> simp [hj]

/-! ### targets -/
abbrev GD := Dat → Ev → (Ev → Prop) → Prop
abbrev GsD := List Dat → Ev → (Ev → Prop) → Prop
/-- a value that a walk hands out: in the weak case a pair that nobody else knows -/
def RepX (w : Bool) (B : BB) (F H : Hp) (v : V) (d : Dat) : Prop := Rep B F v d ∨ (w = true ∧ ∃ T xs es, v = .ref T ∧ H T = some (.tup xs) ∧ d = .tup es ∧ Reps B F xs es)
theorem RepX.strict {B : BB} {F H : Hp} {v : V} {d : Dat} (h : RepX false B F H v d) : Rep B F v d := by
  rcases h with h | ⟨h, _⟩
  · exact h
  · cases h
def liftG (w : Bool) (is : List Nat) (G : GD) : TG := fun v σ H Q => ∃ (A : Addr → Prop) (B : BB) (F : Hp) (ε : Ev) (d : Dat) (R : Ev → Prop),
  Rs A B F H σ ε ∧ RepX w B F H v d ∧ G d ε R ∧ ∀ σ' ε', Rs A B F H σ' ε' → (∀ vs : List Nat, (∀ i ∈ is, i ∈ vs) → L2.wipe σ' vs = L2.wipe σ vs) → R ε' → Q σ' H
def liftGs (is : List Nat) (G : GsD) : TGs := fun vs σ H Q => ∃ (A : Addr → Prop) (B : BB) (F : Hp) (ε : Ev) (ds : List Dat) (R : Ev → Prop),
  Rs A B F H σ ε ∧ Reps B F vs ds ∧ G ds ε R ∧ ∀ σ' ε', Rs A B F H σ' ε' → (∀ vs : List Nat, (∀ i ∈ is, i ∈ vs) → L2.wipe σ' vs = L2.wipe σ vs) → R ε' → Q σ' H
def PGD (w : Bool) (X : Cx) (is : List Nat) (tg : Expr) (G : GD) : Prop := PG X tg (liftG w is G)
def PGsD (X : Cx) (is : List Nat) (ts : List Expr) (G : GsD) : Prop := PGs X ts (liftGs is G)
section
variable {X : Cx} {tg : Expr} {pos : Pos} {is js : List Nat} {G : GD} {Gs : GsD}
theorem pg_weak {g g' : TG} (h : PG X tg g) (w : ∀ v σ H Q, g' v σ H Q → g v σ H Q) : PG X tg g' := ⟨fun pins s σ H v u Q I r q => h.run pins s σ H v u Q I r (w v σ H Q q)⟩
theorem pgs_weak {ts : List Expr} {g g' : TGs} (h : PGs X ts g) (w : ∀ v σ H Q, g' v σ H Q → g v σ H Q) : PGs X ts g' := ⟨fun pins s σ H v u Q I r q => h.run pins s σ H v u Q I r (w v σ H Q q)⟩
def gN (i : Nat) : GD := fun d ε R => R (ε.set i (.val d))
theorem pgd_name {i : Nat} {x : Str} (hN : X.N.Nodup) (hi : X.N[i]? = some x) (hx : Loc X.env.scope x) (hf : X.fn x = true ∨ X.env.scope.names.lookup x = some .local := by first | exact .inl rfl | exact .inr rfl | assumption) : PGD false X [i] (.Name x pos) (gN i) :=
  pg_weak (pg_name hN hi hx hf) fun v σ H Q ⟨A, B, F, ε, d, R, r, rd, t, k⟩ => k _ _ (r.setVal rd.strict) (fun vs hv => wipe_set (hv i (by simp))) t
def gNilD : GsD := fun ds ε R => ds = [] ∧ R ε
def gConsD (G : GD) (Gs : GsD) : GsD := fun ds ε R => ∃ d r, ds = d :: r ∧ G d ε fun ε' => Gs r ε' R
theorem pgsd_nil : PGsD X [] [] gNilD := pgs_weak pgs_nil fun vs σ H Q ⟨A, B, F, ε, ds, R, r, rd, ⟨e, t⟩, k⟩ => by
  subst e
  cases rd
  exact ⟨rfl, k σ ε r (fun _ _ => rfl) t⟩
theorem pgsd_cons {e : Expr} {es : List Expr} (h1 : PGD false X is e G) (h2 : PGsD X js es Gs) (hs : (assignEach (e :: es) X.env).map (·.2) = assign e X.env :: (assignEach es X.env).map (·.2) := by rfl) : PGsD X (is ++ js) (e :: es) (gConsD G Gs) :=
  pgs_weak (pgs_cons h1 h2 hs) fun vs σ H Q ⟨A, B, F, ε, ds, R, r, rd, ⟨d, rr, e, t⟩, k⟩ => by
    subst e
    cases rd with
    | cons r1 r2 =>
      refine ⟨_, _, rfl, A, B, F, ε, d, _, r, .inl r1, t, fun σ1 ε1 rs1 w1 t1 => ?_⟩
      exact ⟨A, B, F, ε1, rr, R, rs1, r2, t1, fun σ2 ε2 rs2 w2 t2 => k σ2 ε2 rs2 (fun vs hv => (w2 vs fun i hi => hv i (List.mem_append_right _ hi)).trans (w1 vs fun i hi => hv i (List.mem_append_left _ hi))) t2⟩
def gTupD (n : Nat) (Gs : GsD) : GD := fun d ε R => ∃ ds, d = .tup ds ∧ ds.length = n ∧ Gs ds ε R
theorem pgd_tup {w : Bool} {es : List Expr} {k n : Nat} (hc : X.calm = true) (h : PGsD X is es Gs) (hn : (assignEach es X.env).length = n := by rfl) (hst : (assignEach es X.env).findIdx? (·.1) = none := by rfl) : PGD w X is (.Tuple es k pos) (gTupD n Gs) :=
  pg_weak (pg_tup hc h hn hst) fun v σ H Q ⟨A, B, F, ε, d, R, r, rd, ⟨ds, e, hl, t⟩, k⟩ => by
    subst e
    rcases rd with rd | ⟨_, T, xs, es, rfl, hT, he, h2⟩
    · cases rd with
      | tup h1 hd h2 => exact ⟨_, _, rfl, KT.sq ⟨_, r.ex _ _ h1, hd⟩, h2.length.trans hl, A, B, F, ε, ds, R, r, h2, t, k⟩
    · cases he
      exact ⟨_, _, rfl, SqT.of hT, h2.length.trans hl, A, B, F, ε, ds, R, r, h2, t, k⟩
end

/-! ### walks -/
def YD (w : Bool) (B : BB) (F : Hp) (ds : List Dat) : Nat → Hp → V → Hp → Prop := fun i H x H' => ∃ d, ds[i]? = some d ∧
  ((H' = H ∧ Rep B F x d) ∨ (w = true ∧ ∃ T xs es, x = .ref T ∧ H T = none ∧ H' = upd H T (.tup xs) ∧ d = .tup es ∧ Reps B F xs es))
def WalkD (w : Bool) (B : BB) (J : It) (F : Hp) (ds : List Dat) : Prop := Walk J ds.length (fun H => Ex F H) (YD w B F ds)
abbrev TID := Ev → (List Dat → Prop) → Prop
def liftI (w : Bool) (c : Nat) (T : TID) : TI := fun σ H R => ∃ (A : Addr → Prop) (B : BB) (F : Hp) (ε : Ev) (P : List Dat → Prop) (n : Nat),
  Rs A B F H σ ε ∧ BoxAt B H n ∧ n + c ≤ CAP ∧ T ε P ∧ ∀ J F' H' ds, Gr NoA B c F H F' H' → WalkD w B J F' ds → P ds → R J H'
def PID (w : Bool) (X : Cx) (c : Nat) (tg iter : Expr) (T : TID) : Prop := PI X tg iter (liftI w c T)
section
variable {X : Cx} {tg iter e a b : Expr} {pos : Pos} {c c1 c2 : Nat} {T Ta Tb : TD}
theorem pi_weak {w w' : TI} (h : PI X tg iter w) (k : ∀ σ H R, w' σ H R → w σ H R) : PI X tg iter w' := ⟨fun pins s σ H R I q => h.run pins s σ H R I (k σ H R q)⟩
/-- a list that stays -/
def iL (T : TD) : TID := fun ε P => T ε fun d => ∃ ds, d = .lst ds ∧ P ds
def iT (T : TD) : TID := fun ε P => T ε fun d => ∃ ds, d = .tup ds ∧ P ds
theorem pid_list (h : PD .rep X c e T) : PID false X c tg e (iL T) := pi_weak (pi_list h) fun σ H R ⟨A, B, F, ε, P, n, r, bx, hn, t, k⟩ =>
  ⟨A, B, F, ε, _, n, r, bx, hn, t, fun v F' H' d g q ⟨ds, e1, p⟩ => by
    subst e1
    cases q with
    | @lst a vs xs h1 h2 =>
      refine ⟨a, rfl, ⟨_, SqL.of (g.sub _ _ h1)⟩, k _ F' H' ds g ?_ p⟩
      have w := walk_list (K := X.K) (a := a) (xs := vs)
      unfold WalkD
      rw [← h2.length]
      exact w.mono (fun H'' e => SqL.of (e _ _ h1)) fun i H'' x H3 hi hg y => by
        obtain ⟨d, hd, rd⟩ := h2.getV y.2
        exact ⟨d, hd, .inl ⟨y.1, rd⟩⟩⟩
theorem pid_tup (h : PD .rep X c e T) : PID false X c tg e (iT T) := pi_weak (pi_tup h) fun σ H R ⟨A, B, F, ε, P, n, r, bx, hn, t, k⟩ =>
  ⟨A, B, F, ε, _, n, r, bx, hn, t, fun v F' H' d g q ⟨ds, e1, p⟩ => by
    subst e1
    cases q with
    | @tup a vs xs o h1 hdd h2 =>
      refine ⟨a, rfl, ⟨_, KT.sq ⟨_, g.sub _ _ h1, hdd⟩⟩, k _ F' H' ds g ?_ p⟩
      have w := walk_tup (K := X.K) (a := a) (xs := vs)
      unfold WalkD
      rw [← h2.length]
      exact w.mono (fun H'' e => KT.sq ⟨_, e _ _ h1, hdd⟩) fun i H'' x H3 hi hg y => by
        obtain ⟨d, hd, rd⟩ := h2.getV y.2
        exact ⟨d, hd, .inl ⟨y.1, rd⟩⟩⟩
/-- range(n), range(a, b) -/
def rngD (lo : Int) (n : Nat) : List Dat := (List.range n).map fun i => .int (lo + (i : Nat))
def iR1 (T : TAD) : TID := fun ε P => T ε fun ds => ∃ j : Int, ds = [.int j] ∧ j < 2 ^ 62 ∧ -(2 ^ 62) ≤ j ∧ P (rngD 0 j.toNat)
def iR2 (T : TAD) : TID := fun ε P => T ε fun ds => ∃ i j : Int, ds = [.int i, .int j] ∧ (-(2 ^ 62) ≤ i ∧ i < 2 ^ 62 ∧ -(2 ^ 62) ≤ j ∧ j < 2 ^ 62) ∧ P (rngD i (j - i).toNat)
theorem walk_rngD {B : BB} {F : Hp} {lo : Int} {n : Nat} : WalkD false B (Itr lo n) F (rngD lo n) := by
  unfold WalkD
  have hl : (rngD lo n).length = n := by simp [rngD]
  rw [hl]
  exact (walk_range (lo := lo) (n := n)).mono (fun _ _ => trivial) fun i H x H' hi _ y => ⟨.int (lo + (i : Nat)), by simp [rngD, hi], .inl ⟨y.1, by rw [y.2]; exact .int⟩⟩
theorem pid_range1 {p : Pos} {Ta : TAD} {arg : Expr} (hg : Gl X "range") (hm : X.mg "range" = none) (h : PAD X c [arg] Ta) (hse : starEach [arg] X.env = [(false, eval arg X.env)] := by rfl) : PID false X c tg (.Call (.Name "range" p) [arg] [] pos) (iR1 Ta) := pi_weak (pi_range1 hg hm h (hs := hse)) fun σ H R ⟨A, B, F, ε, P, n, r, bx, hn, t, k⟩ =>
  ⟨A, B, F, ε, _, n, r, bx, hn, t, fun vs F' H' ds g q ⟨j, e1, h1, h2, p⟩ => by
    subst e1
    cases q with
    | cons q1 q2 =>
      cases q1
      cases q2
      exact ⟨j, rfl, h2, h1, k _ F' H' _ g walk_rngD p⟩⟩
theorem pid_range2 {p : Pos} {Ta : TAD} {arg arg2 : Expr} (hg : Gl X "range") (hm : X.mg "range" = none) (h : PAD X c [arg, arg2] Ta) (hse : starEach [arg, arg2] X.env = [(false, eval arg X.env), (false, eval arg2 X.env)] := by rfl) (hse2 : starEach [arg2] X.env = [(false, eval arg2 X.env)] := by rfl) : PID false X c tg (.Call (.Name "range" p) [arg, arg2] [] pos) (iR2 Ta) := pi_weak (pi_range2 hg hm h (hs := hse) (hs2 := hse2)) fun σ H R ⟨A, B, F, ε, P, n, r, bx, hn, t, k⟩ =>
  ⟨A, B, F, ε, _, n, r, bx, hn, t, fun vs F' H' ds g q ⟨i, j, e1, h1, p⟩ => by
    subst e1
    cases q with
    | cons q1 q2 =>
      cases q1
      cases q2 with
      | cons q3 q4 =>
        cases q3
        cases q4
        exact ⟨i, j, rfl, h1, k _ F' H' _ g walk_rngD p⟩⟩
end

/-! ### for -/
section
variable {w : Bool} {X : Cx} {tg iter t0 elt : Expr} {body : List Stmt} {pos : Pos} {c c1 c2 ci cb ct ce : Nat} {Ti : TID} {G : GD} {Ts : TSD} {Tt : TTD} {Te : TD} {is : List Nat}
def sFor (M : Nat) (Ti : TID) (G : GD) (Ts : TSD) : TSD := fun E ε => Ti ε fun ds => ds.length ≤ M ∧ ∃ Iv : Nat → Ev → Prop, Iv 0 ε ∧
  (∀ i d ε', ds[i]? = some d → Iv i ε' → G d ε' fun ε2 => Ts { E with nx := Iv (i + 1), ct := Iv (i + 1), bk := E.nx } ε2) ∧ ∀ ε', Iv ds.length ε' → E.nx ε'
theorem yd_step {w : Bool} {A : Addr → Prop} {B : BB} {F Fi Hi H' : Hp} {ds : List Dat} {i : Nat} {x : V} {σ : L2.St} {ε : Ev} (r : Rs A B Fi Hi σ ε) (e : Ex F Fi) (y : YD w B F ds i Hi x H') :
    ∃ d F2, ds[i]? = some d ∧ Gr NoA B 0 Fi Hi F2 H' ∧ RepX w B F2 H' x d ∧ Ex F F2 := by
  obtain ⟨d, hd, y⟩ := y
  rcases y with ⟨rfl, rd⟩ | ⟨hw, T, xs, es, rfl, hT, rfl, rfl, rr⟩
  · exact ⟨d, Fi, hd, Gr.refl r.ex, .inl (rd.mono e), e⟩
  · exact ⟨_, Fi, hd, Gr.alloc0 r.ex hT, .inr ⟨hw, T, xs, es, rfl, upd_same, rfl, rr.mono e⟩, e⟩
theorem sd_for (M : Nat) (hp : PassesOwn (model X.prog X.w) X.A X.env X.xe) (hc : X.calm = true) (hi : PID w X ci tg iter Ti) (hg : PGD w X is tg G) (hb : SDs X cb body Ts) (hs : ∀ x, foldedSetIterable iter X.env x = pure x := by intro _; rfl) :
    SD X (ci + M * cb) (.For tg iter body [] pos) (sFor M Ti G Ts) := ps_weak (ps_for hp hc hi hg hb hs) fun D σ H ⟨A, B, F, ε, E, n, r, bx, hn, t, k1, k2, k3, k4⟩ => by
  refine ⟨A, B, F, ε, _, n, r, bx, by omega, t, fun J F1 H1 ds g1 w ⟨hl, Iv, h0, hs, hd⟩ => ?_⟩
  refine for_it w (fun i σ' H' => i ≤ ds.length ∧ ∃ Fi εi, Gr A B (i * cb) F1 H1 Fi H' ∧ Rs A B Fi H' σ' εi ∧ Iv i εi)
    ⟨Nat.zero_le _, F1, ε, by rw [Nat.zero_mul]; exact Gr.refl (r.gr g1).ex, r.gr g1, h0⟩ (fun i σ' H' _ ⟨_, Fi, εi, g, ri, _⟩ => g.ex.trans ri.ex) ?_ ?_
  · rintro i x σ' Hi H' hi ⟨_, Fi, εi, g, ri, inv⟩ y
    obtain ⟨d, F2, hd2, g2, rd, _⟩ := yd_step ri g.ex y
    have hm : (i + 1) * cb ≤ M * cb := Nat.mul_le_mul_right _ (by omega)
    have hi1 : (i + 1) * cb = i * cb + cb := Nat.succ_mul _ _
    refine ⟨A, B, F2, εi, d, _, ri.gr g2, rd, hs i d εi hd2 inv, fun σ3 ε3 r3 _ t3 => ?_⟩
    have gg : Gr A B (ci + (i * cb + 0)) F H F2 H' := g1.any.trans (g.trans g2.any)
    refine ⟨A, B, F2, ε3, _, n + (ci + (i * cb + 0)), r3, gg.box n bx, by omega, t3, fun F' H'' σ'' ε'' g3 r'' inv' => ?_, fun F' H'' σ'' ε'' g3 r'' z => ?_, fun F' H'' σ'' ε'' g3 r'' inv' => ?_, fun v F' H'' d g3 q z => ?_⟩
    · exact ⟨hi, F', ε'', ((g.trans g2.any).trans g3).mono (by omega), r'', inv'⟩
    · exact k1 F' H'' σ'' ε'' ((gg.trans g3).mono (by omega)) r'' z
    · exact ⟨hi, F', ε'', ((g.trans g2.any).trans g3).mono (by omega), r'', inv'⟩
    · exact k4 v F' H'' d ((gg.trans g3).mono (by omega)) q z
  · rintro σ' H' ⟨_, Fi, εi, g, ri, inv⟩
    have hm : ds.length * cb ≤ M * cb := Nat.mul_le_mul_right _ hl
    exact k1 Fi H' σ' εi ((g1.any.trans g).mono (by omega)) ri (hd εi inv)

/-! ### while -/
def sWh (M : Nat) (Tt : TTD) (Ts : TSD) : TSD := fun E ε => ∃ Iv : Nat → Ev → Prop, (∃ m, m ≤ M ∧ Iv m ε) ∧
  ∀ m ε', Iv m ε' → Tt ε' fun b => if b = true then Ts { E with nx := fun ε2 => ∃ m', m' < m ∧ Iv m' ε2, ct := fun ε2 => ∃ m', m' < m ∧ Iv m' ε2, bk := E.nx } ε' else E.nx ε'
theorem sd_while (M : Nat) (hp : PassesOwn (model X.prog X.w) X.A X.env X.xe) (ht : PTD X ct t0 Tt) (hb : SDs X cb body Ts) : SD X ((M + 1) * (ct + cb)) (.While t0 body [] pos) (sWh M Tt Ts) :=
  ps_weak (ps_while hp ht hb) fun D σ H ⟨A, B, F, ε, E, n, r, bx, hn, ⟨Iv, ⟨m0, hm0, i0⟩, turn⟩, k1, k2, k3, k4⟩ => by
    refine ⟨fun m σ' H' => m ≤ m0 ∧ ∃ F' ε', Gr A B ((m0 - m) * (ct + cb)) F H F' H' ∧ Rs A B F' H' σ' ε' ∧ Iv m ε', ⟨m0, Nat.le_refl _, F, ε, by rw [Nat.sub_self, Nat.zero_mul]; exact Gr.refl r.ex, r, i0⟩, ?_⟩
    rintro m σ' H' ⟨hm, F', ε', g, r', inv⟩
    have le1 : (m0 - m) * (ct + cb) ≤ M * (ct + cb) := Nat.mul_le_mul_right _ (by omega)
    have e1 : (M + 1) * (ct + cb) = M * (ct + cb) + (ct + cb) := Nat.succ_mul _ _
    refine ⟨A, B, F', ε', _, n + (m0 - m) * (ct + cb), r', g.box n bx, by omega, turn m ε' inv, fun b F2 H2 g2 t2 => ?_⟩
    cases b with
    | true =>
      have step : ∀ m', m' < m → (m0 - m) * (ct + cb) + (ct + cb) ≤ (m0 - m') * (ct + cb) := fun m' h => by
        rw [← Nat.succ_mul]
        exact Nat.mul_le_mul_right _ (by omega)
      refine ⟨fun σ3 H3 => ∃ m', m' < m ∧ ∃ F3 ε3, Gr A B ((m0 - m') * (ct + cb)) F H F3 H3 ∧ Rs A B F3 H3 σ3 ε3 ∧ Iv m' ε3, fun σ3 H3 ⟨m', h1, F3, ε3, h2, h3, h4⟩ => ⟨m', h1, by omega, F3, ε3, h2, h3, h4⟩, ?_⟩
      refine ⟨A, B, F2, ε', _, n + (m0 - m) * (ct + cb) + ct, r'.gr g2, g2.box _ (g.box n bx), by omega, t2, fun F3 H3 σ3 ε3 g3 r3 ⟨m', h1, h2⟩ => ?_, fun F3 H3 σ3 ε3 g3 r3 z => ?_, fun F3 H3 σ3 ε3 g3 r3 ⟨m', h1, h2⟩ => ?_, fun v F3 H3 d g3 q z => ?_⟩
      · exact ⟨m', h1, F3, ε3, ((g.trans (g2.any.trans g3)).mono (step m' h1)), r3, h2⟩
      · exact k1 F3 H3 σ3 ε3 ((g.trans (g2.any.trans g3)).mono (by omega)) r3 z
      · exact ⟨m', h1, F3, ε3, ((g.trans (g2.any.trans g3)).mono (step m' h1)), r3, h2⟩
      · exact k4 v F3 H3 d ((g.trans (g2.any.trans g3)).mono (by omega)) q z
    | false => exact k1 F2 H2 σ' ε' ((g.trans g2.any).mono (by omega)) (r'.gr g2) t2

/-! ### comprehensions -/
def dLc (M : Nat) (Ti : TID) (G : GD) (Tt : TTD) (Te : TD) (vs : List Nat) : TD := fun ε P => Ti ε fun ds => ds.length ≤ M ∧ ∃ Iv : Nat → List Dat → Prop, Iv 0 [] ∧
  (∀ i d acc, ds[i]? = some d → Iv i acc → G d (wipeD ε vs) fun ε2 => Tt ε2 fun b => if b = true then Te ε2 fun y => Iv (i + 1) (acc ++ [y]) else Iv (i + 1) acc) ∧ ∀ acc, Iv ds.length acc → P (.lst acc)
def PTsD (X : Cx) (c : Nat) (ifs : List Expr) (T : TTD) : Prop := PTs X ifs (liftT c T)
theorem pts_weak {ifs : List Expr} {t t' : TT} (h : PTs X ifs t) (w : ∀ σ H Q, t' σ H Q → t σ H Q) : PTs X ifs t' := ⟨fun pins s σ H Q I q => h.run pins s σ H Q I (w σ H Q q)⟩
def dYes : TTD := fun _ P => P true
theorem ptsd_nil : PTsD X 0 [] dYes := pts_weak pts_nil fun σ H Q ⟨A, B, F, ε, P, n, r, bx, hn, t, k⟩ => k true F H (Gr.refl r.ex) t
theorem ptsd_one (h : PTD X c t0 Tt) : PTsD X c [t0] Tt := pts_one h
theorem lc_run {M : Nat} (hM : M ≤ 1024) {vs : List Nat} (his : ∀ i ∈ is, i ∈ vs) : ∀ σ H Q, lift .fr (ci + M * (ct + ce)) (dLc M Ti G Tt Te vs) σ H Q → tLc (liftI w ci Ti) (liftG w is G) (liftT ct Tt) (lift .rep ce Te) vs σ H Q := fun σ H Q ⟨A, B, F, ε, P, n, r, bx, hn, t, k⟩ => by
  refine ⟨A, B, F, ε, _, n, r, bx, by omega, t, fun J F1 H1 ds g1 w ⟨hl, Iv, h0, hs, hd⟩ D hD => ?_⟩
  have r1 := r.gr g1
  have gD : Gr NoA B 0 F1 H1 F1 (upd H1 D (.lst [])) := Gr.alloc0 r1.ex hD
  have nB : ¬ B.has D := fun e => by
    obtain ⟨_, _, o, ho⟩ := r1.bx D e
    rw [hD] at ho
    cases ho
  refine lc_it w (fun i H' => i ≤ ds.length ∧ ∃ Fi vacc acc, Gr NoA B (i * (ct + ce)) F1 H1 Fi H' ∧ Fi D = none ∧ H' D = some (.lst vacc) ∧ Reps B Fi vacc acc ∧ Iv i acc ∧ acc.length ≤ i) ?_ ?_ ?_ ?_
  · exact ⟨Nat.zero_le _, F1, [], [], by rw [Nat.zero_mul]; exact gD, r1.ex.back hD, upd_same, .nil, h0, Nat.le_refl _⟩
  · rintro i H' _ ⟨_, Fi, vacc, acc, g, _⟩
    exact g.ex.trans g.sub
  · rintro i x Hi H' hi ⟨_, Fi, vacc, acc, g, hF, hDi, ra, inv, la⟩ y
    have ri : Rs A B Fi Hi σ ε := r1.gr g
    obtain ⟨d, F2, hd2, g2, rd, _⟩ := yd_step ri g.ex y
    have hm : (i + 1) * (ct + ce) ≤ M * (ct + ce) := Nat.mul_le_mul_right _ (by omega)
    have hi1 : (i + 1) * (ct + ce) = i * (ct + ce) + (ct + ce) := Nat.succ_mul _ _
    refine ⟨A, B, F2, wipeD ε vs, d, _, (ri.gr g2).wipe vs, rd, hs i d acc hd2 inv, fun σ3 ε3 r3 w3 t3 => ⟨?_, ?_⟩⟩
    · rw [w3 vs his, wipe_wipe]
    have gg : Gr NoA B (ci + (i * (ct + ce) + 0)) F H F2 H' := g1.trans (g.trans g2)
    have keepD : ∀ {c F3 H3}, Gr NoA B c F2 H' F3 H3 → H3 D = some (.lst vacc) ∧ F3 D = none := fun {c F3 H3} g3 => by
      have e2 : H' D = some (.lst vacc) := g2.keep D _ hDi nB (fun z => z)
      have f2 : F2 D = none := by
        cases q : F2 D with
        | none => rfl
        | some o =>
          rcases g2.new D o q with z | z | z
          · rw [hF] at z; cases z
          · rw [hDi] at z; cases z
          · exact z.elim
      refine ⟨g3.keep D _ e2 nB (fun z => z), ?_⟩
      cases q : F3 D with
      | none => rfl
      | some o =>
        rcases g3.new D o q with z | z | z
        · rw [f2] at z; cases z
        · rw [e2] at z; cases z
        · exact z.elim
    refine ⟨A, B, F2, ε3, _, n + (ci + (i * (ct + ce) + 0)), r3, gg.box n bx, by omega, t3, fun b F3 H3 g3 t4 => ?_⟩
    cases b with
    | true =>
      show lift .rep ce Te σ3 H3 _
      refine ⟨A, B, F3, ε3, _, n + (ci + (i * (ct + ce) + 0)) + ct, r3.gr g3, g3.box _ (gg.box n bx), by omega, t4, fun yv F4 H4 yd g4 ry iy => ?_⟩
      have g24 : Gr NoA B (ct + ce) F2 H' F4 H4 := g3.trans g4
      obtain ⟨e4, f4⟩ := keepD g24
      refine ⟨vacc, e4, by rw [ra.length]; exact Nat.lt_of_le_of_lt la (Nat.lt_of_lt_of_le (Nat.lt_of_lt_of_le hi (Nat.le_trans hl hM)) (by decide)), hi, F4, vacc ++ [yv], acc ++ [yd], ?_, f4, upd_same, ((ra.mono g2.ex).mono g24.ex).append (.cons ry .nil), iy, by simp; omega⟩
      have gm : Gr NoA B (i * (ct + ce) + 0 + (ct + ce)) F1 H1 F4 H4 := (g.trans g2).trans g24
      refine (Gr.mono (c := i * (ct + ce) + 0 + (ct + ce)) ⟨gm.ex, gm.sub.mut f4, gm.new, fun a o ha nb na => ?_, fun a o ha => ?_, fun m hb => ?_⟩ (by omega))
      · have : a ≠ D := fun z => by rw [z, hD] at ha; cases ha
        rw [upd_ne this]
        exact gm.keep a o ha nb na
      · have : a ≠ D := fun z => by rw [z, hD] at ha; cases ha
        rw [upd_ne this]
        exact gm.there a o ha
      · refine ⟨fun b hb2 => ?_, fun P2 hP => tab_write ((gm.box m hb).2 P2 hP) (fun z => nB (.inr (z ▸ hP))) (fun φ z => by rw [e4] at z; cases z)⟩
        obtain ⟨ws, h1, h2⟩ := (gm.box m hb).1 b hb2
        have : b ≠ D := fun z => nB (.inl (z ▸ hb2))
        exact ⟨ws, by rw [upd_ne this]; exact h1, h2⟩
    | false =>
      obtain ⟨e3, f3⟩ := keepD g3
      exact ⟨hi, F3, vacc, acc, ((g.trans g2).trans g3).mono (by omega), f3, e3, (ra.mono g2.ex).mono g3.ex, t4, by omega⟩
  · rintro H' ⟨_, Fi, vacc, acc, g, hF, hDi, ra, inv, la⟩
    have hm : ds.length * (ct + ce) ≤ M * (ct + ce) := Nat.mul_le_mul_right _ hl
    exact k _ Fi H' (.lst acc) ((g1.trans g).mono (by omega)) ⟨D, rfl, ⟨hF, nB, _, hDi, ra⟩, g1.free hD⟩ (hd acc inv)
theorem pd_lc (M : Nat) {ifs : List Expr} {scope : Scope} {own : List (Str × Nat)} (hc : X.calm = true) (hN : X.N.Nodup) (hi : PID w X ci tg iter Ti) (ok : BlkOk X.N X.env.scope scope own)
    (hg : ∀ (s : Shared) (H : Hp) (C : Addr) (cl : List (Str × Addr)) (fp : List Addr), PGD w (X.blk s H scope (compEnvC scope cl C X.env) fp) is tg G) (ht : ∀ (s : Shared) (H : Hp) (C : Addr) (cl : List (Str × Addr)) (fp : List Addr), PTsD (X.blk s H scope (compEnvC scope cl C X.env) fp) ct ifs Tt)
    (he : ∀ (s : Shared) (H : Hp) (C : Addr) (cl : List (Str × Addr)) (fp : List Addr), PD .rep (X.blk s H scope (compEnvC scope cl C X.env) fp) ce elt Te) (his : ∀ i ∈ is, i ∈ own.map (·.2) := by decide) (hs : ∀ x, foldedSetIterable iter X.env x = pure x := by intro _; rfl) (hM : M ≤ 1024 := by decide) :
    PD .fr X (ci + M * (ct + ce)) (.ListComp elt [⟨tg, iter, ifs, 0⟩] scope pos) (dLc M Ti G Tt Te (own.map (·.2))) :=
  pe_weak (pe_lc hc hN hi ok hg ht he hs) (lc_run hM his)
/-- y = [..], y a local name: stored by the comprehension's own block -/
theorem sd_setLc (M : Nat) {i : Nat} {y : Str} {py spos : Pos} {ifs : List Expr} {scope : Scope} {own : List (Str × Nat)} (hc : X.calm = true) (hN : X.N.Nodup) (hy : X.N[i]? = some y) (hyl : X.env.scope.names.lookup y = some .local)
    (hsw : swapsWith (.ListComp elt [⟨tg, iter, ifs, 0⟩] scope pos) (some (.Name y py)) spos.line X.env = pure true) (hi : PID w X ci tg iter Ti) (ok : BlkOk X.N X.env.scope scope own)
    (hg : ∀ (s : Shared) (H : Hp) (C : Addr) (cl : List (Str × Addr)) (fp : List Addr), PGD w (X.blk s H scope (compEnvC scope cl C X.env) fp) is tg G) (ht : ∀ (s : Shared) (H : Hp) (C : Addr) (cl : List (Str × Addr)) (fp : List Addr), PTsD (X.blk s H scope (compEnvC scope cl C X.env) fp) ct ifs Tt)
    (he : ∀ (s : Shared) (H : Hp) (C : Addr) (cl : List (Str × Addr)) (fp : List Addr), PD .rep (X.blk s H scope (compEnvC scope cl C X.env) fp) ce elt Te) (his : ∀ i ∈ is, i ∈ own.map (·.2) := by decide) (hs : ∀ x, foldedSetIterable iter X.env x = pure x := by intro _; rfl) (hM : M ≤ 1024 := by decide) :
    SD X (ci + M * (ct + ce)) (.Assign [.Name y py] (.ListComp elt [⟨tg, iter, ifs, 0⟩] scope pos) spos) (sAsgO i (dLc M Ti G Tt Te (own.map (·.2)))) :=
  ps_weak (ps_setLc hc hN hy hyl hsw hi ok hg ht he hs) fun D σ H h => lc_run hM his σ H _ (asgO_run D σ H h)
/-- a comprehension whose turns carry nothing -/
theorem dLc_pure {M : Nat} {vs : List Nat} {ε : Ev} {P : Dat → Prop} {ds : List Dat} (g : Dat → Option Dat) (hl : ds.length ≤ M)
    (h : ∀ d ∈ ds, ∀ R : Option Dat → Prop, R (g d) → G d (wipeD ε vs) fun ε2 => Tt ε2 fun b => if b = true then Te ε2 fun y => R (some y) else R none) (hP : P (.lst (ds.filterMap g))) :
    ds.length ≤ M ∧ ∃ Iv : Nat → List Dat → Prop, Iv 0 [] ∧
      (∀ i d acc, ds[i]? = some d → Iv i acc → G d (wipeD ε vs) fun ε2 => Tt ε2 fun b => if b = true then Te ε2 fun y => Iv (i + 1) (acc ++ [y]) else Iv (i + 1) acc) ∧ ∀ acc, Iv ds.length acc → P (.lst acc) := by
  refine ⟨hl, fun i acc => acc = (ds.take i).filterMap g, by simp, fun i d acc hd ha => ?_, fun acc ha => ?_⟩
  · subst ha
    have ht : ds.take (i + 1) = ds.take i ++ [d] := by rw [List.take_add_one, hd]; rfl
    have := h d (List.mem_of_getElem? hd) (fun o => (ds.take i).filterMap g ++ o.toList = (ds.take (i + 1)).filterMap g) (by
      rw [ht, List.filterMap_append]
      cases e : g d <;> simp [e])
    simpa using this
  · subst ha
    rw [List.take_length]
    exact hP
end
end DL
set_option maxRecDepth 100000
set_option maxHeartbeats 1000000
/-! DL4: operators by data, tests. -/
namespace DL
open PySem L2
variable [TabC]

/-! ### plain data, == -/
mutual
def eqD : Dat → Dat → Bool
  | .non, .non => true
  | .bl a, .bl b => a == b
  | .bl a, .int j => (if a then 1 else 0) == j
  | .int i, .bl b => i == (if b then 1 else 0)
  | .int i, .int j => i == j
  | .lst xs, .lst ys => eqDs xs ys
  | .tup xs, .tup ys => eqDs xs ys
  | .str x, .str y => x == y
  | _, _ => false
def eqDs : List Dat → List Dat → Bool
  | [], [] => true
  | x :: xs, y :: ys => eqD x y && eqDs xs ys
  | _, _ => false
end
mutual
def py : Dat → PyData
  | .non => .none
  | .bl b => .bool b
  | .int i => .int i
  | .lst xs => .list (pys xs)
  | .tup xs => .tuple (pys xs)
  | .str x => .str x
  | _ => .dict []
def pys : List Dat → List PyData
  | [] => []
  | x :: xs => py x :: pys xs
end
/-- none, bools, ints, lists and tuples to a depth -/
def pl : Nat → Dat → Bool
  | _, .non => true
  | _, .bl _ => true
  | _, .int _ => true
  | _, .str x => PyData.strOk x
  | n + 1, .lst xs => xs.all (pl n)
  | n + 1, .tup xs => xs.all (pl n)
  | _, _ => false
theorem canAll {ds : List PyData} (h : ∀ d ∈ ds, d.canLay0 = true) : PyData.canLayAll0 ds = true := by
  induction ds with
  | nil => simp only [PyData.canLayAll0]
  | cons d ds ih => simp only [PyData.canLayAll0, h d (by simp), ih fun e he => h e (by simp [he]), Bool.and_self]
theorem depAll {n : Nat} {ds : List PyData} (h : ∀ d ∈ ds, d.depth ≤ n) : PyData.depthAll ds ≤ n := by
  induction ds with
  | nil => simp only [PyData.depthAll, Nat.zero_le]
  | cons d ds ih =>
    simp only [PyData.depthAll]
    exact Nat.max_le.mpr ⟨h d (by simp), ih fun e he => h e (by simp [he])⟩
theorem mem_pys {d : PyData} : ∀ {xs : List Dat}, d ∈ pys xs → ∃ x ∈ xs, d = py x
  | [], h => by simp [pys] at h
  | x :: xs, h => by
    simp only [pys, List.mem_cons] at h
    rcases h with e | h
    · exact ⟨x, by simp, e⟩
    · obtain ⟨y, h1, h2⟩ := mem_pys h
      exact ⟨y, by simp [h1], h2⟩
theorem pl_ok : ∀ {n : Nat} {d : Dat}, pl n d = true → (py d).canLay0 = true ∧ (py d).depth ≤ n
  | n, .non, _ => by simp [py, PyData.canLay0, PyData.depth]
  | n, .bl b, _ => by simp [py, PyData.canLay0, PyData.depth]
  | n, .int b, _ => by simp [py, PyData.canLay0, PyData.depth]
  | n, .str b, h => by simpa [py, PyData.canLay0, PyData.depth, pl] using h
  | n + 1, .lst xs, h => by
    have h1 : ∀ d ∈ pys xs, d.canLay0 = true ∧ d.depth ≤ n := fun d hd => by
      obtain ⟨x, hx, rfl⟩ := mem_pys hd
      exact pl_ok (List.all_eq_true.mp (show xs.all (pl n) = true from h) x hx)
    simp only [py, PyData.canLay0, PyData.depth]
    exact ⟨canAll fun d hd => (h1 d hd).1, Nat.succ_le_succ (depAll fun d hd => (h1 d hd).2)⟩
  | n + 1, .tup xs, h => by
    have h1 : ∀ d ∈ pys xs, d.canLay0 = true ∧ d.depth ≤ n := fun d hd => by
      obtain ⟨x, hx, rfl⟩ := mem_pys hd
      exact pl_ok (List.all_eq_true.mp (show xs.all (pl n) = true from h) x hx)
    simp only [py, PyData.canLay0, PyData.depth]
    exact ⟨canAll fun d hd => (h1 d hd).1, Nat.succ_le_succ (depAll fun d hd => (h1 d hd).2)⟩
  | 0, .lst _, h => by simp [pl] at h
  | 0, .tup _, h => by simp [pl] at h
  | _, .dct _, h => by simp [pl] at h
  | _, .dtt _, h => by simp [pl] at h
  | _, .obj _ _, h => by simp [pl] at h
  | _, .cell, h => by simp [pl] at h
  | _, .ty _, h => by simp [pl] at h
  | _, .cls _, h => by simp [pl] at h
  | _, .rng _ _, h => by simp [pl] at h
theorem shaped_of {d : Dat} {n : Nat} (h : pl n d = true) (hn : n ≤ 60) : SeqAt.shaped (py d) = true := by
  obtain ⟨h1, h2⟩ := pl_ok h
  unfold SeqAt.shaped
  rw [h1, decide_eq_true (by omega)] <;> rfl
mutual
theorem eqv_py : ∀ (d e : Dat) {n m : Nat}, pl n d = true → pl m e = true → PyData.eqv (py d) (py e) = eqD d e
  | .lst xs, e, n, m, h, h' => by
    cases n with
    | zero => simp [pl] at h
    | succ n =>
      cases e with
      | lst ys =>
        cases m with
        | zero => simp [pl] at h'
        | succ m =>
          simp only [py, PyData.eqv, eqD]
          exact eqvs_py xs ys (show xs.all (pl n) = true from h) (show ys.all (pl m) = true from h')
      | _ => first | (simp [pl] at h'; done) | simp [py, PyData.eqv, eqD]
  | .tup xs, e, n, m, h, h' => by
    cases n with
    | zero => simp [pl] at h
    | succ n =>
      cases e with
      | tup ys =>
        cases m with
        | zero => simp [pl] at h'
        | succ m =>
          simp only [py, PyData.eqv, eqD]
          exact eqvs_py xs ys (show xs.all (pl n) = true from h) (show ys.all (pl m) = true from h')
      | _ => first | (simp [pl] at h'; done) | simp [py, PyData.eqv, eqD]
  | .non, e, n, m, h, h' => by cases e <;> first | (simp [pl] at h'; done) | simp [py, PyData.eqv, eqD]
  | .bl b, e, n, m, h, h' => by cases e <;> first | (simp [pl] at h'; done) | simp [py, PyData.eqv, eqD]
  | .int i, e, n, m, h, h' => by cases e <;> first | (simp [pl] at h'; done) | simp [py, PyData.eqv, eqD]
  | .str i, e, n, m, h, h' => by cases e <;> first | (simp [pl] at h'; done) | simp [py, PyData.eqv, eqD]
  | .dct _, _, _, _, h, _ => by simp [pl] at h
  | .dtt _, _, _, _, h, _ => by simp [pl] at h
  | .obj _ _, _, _, _, h, _ => by simp [pl] at h
  | .cell, _, _, _, h, _ => by simp [pl] at h
  | .ty _, _, _, _, h, _ => by simp [pl] at h
  | .cls _, _, _, _, h, _ => by simp [pl] at h
  | .rng _ _, _, _, _, h, _ => by simp [pl] at h
theorem eqvs_py : ∀ (xs ys : List Dat) {n m : Nat}, xs.all (pl n) = true → ys.all (pl m) = true → PyData.eqvAll (pys xs) (pys ys) = eqDs xs ys
  | [], [], _, _, _, _ => by simp [pys, PyData.eqvAll, eqDs]
  | [], y :: ys, _, _, _, _ => by simp [pys, PyData.eqvAll, eqDs]
  | x :: xs, [], _, _, _, _ => by simp [pys, PyData.eqvAll, eqDs]
  | x :: xs, y :: ys, n, m, h, h' => by
    rw [List.all_cons, Bool.and_eq_true] at h h'
    simp only [pys, PyData.eqvAll, eqDs, eqv_py x y h.1 h'.1, eqvs_py xs ys h.2 h'.2]
end
mutual
theorem dp_of {K : PySem.W.Frag} {B : BB} {F H : Hp} (e : Ex F H) : ∀ (d : Dat) {v : V} {n : Nat}, Rep B F v d → pl n d = true → Dp K H v (py d)
  | .non, _, _, .non, _ => by simp only [py]; exact .non
  | .bl _, _, _, .bl, _ => by simp only [py]; exact .bl _
  | .int _, _, _, .int, _ => by simp only [py]; exact .int _
  | .lst xs, _, n, .lst h r, hp => by
    cases n with
    | zero => simp [pl] at hp
    | succ n =>
      simp only [py]
      exact .lst (SqL.of (e _ _ h)) (dps_of e xs r (show xs.all (pl n) = true from hp))
  | .tup xs, _, n, .tup h hd r, hp => by
    cases n with
    | zero => simp [pl] at hp
    | succ n =>
      simp only [py]
      exact .tup (KT.sq ⟨_, e _ _ h, hd⟩) (dps_of e xs r (show xs.all (pl n) = true from hp))
  | .str _, _, _, .str, _ => by simp only [py]; exact .str _
  | .dct _, _, _, _, hp => by simp [pl] at hp
  | .dtt _, _, _, _, hp => by simp [pl] at hp
  | .obj _ _, _, _, _, hp => by simp [pl] at hp
  | .cell, _, _, _, hp => by simp [pl] at hp
  | .ty _, _, _, _, hp => by simp [pl] at hp
  | .cls _, _, _, _, hp => by simp [pl] at hp
  | .rng _ _, _, _, _, hp => by simp [pl] at hp
theorem dps_of {K : PySem.W.Frag} {B : BB} {F H : Hp} (e : Ex F H) : ∀ (ds : List Dat) {vs : List V} {n : Nat}, Reps B F vs ds → ds.all (pl n) = true → DpAll K H vs (pys ds)
  | [], _, _, .nil, _ => by simp only [pys]; exact .nil
  | d :: ds, _, n, .cons r t, h => by
    rw [List.all_cons, Bool.and_eq_true] at h
    simp only [pys]
    exact .cons (dp_of e d r h.1) (dps_of e ds t h.2)
end

/-! ### what a shallow value is -/
section
variable {B : BB} {Hb F H : Hp} {v : V} {i : Int} {b : Bool} {x : Str} {xs : List Dat}
theorem sh_non (h : Res .sh B Hb F H v .non) : v = .non := by
  rcases h with h | ⟨p, _, w⟩
  · cases h; rfl
  · obtain ⟨o, _, c⟩ := w.con; cases o <;> exact c.elim
theorem sh_int (h : Res .sh B Hb F H v (.int i)) : v = .int i := by
  rcases h with h | ⟨p, _, w⟩
  · cases h; rfl
  · obtain ⟨o, _, c⟩ := w.con; cases o <;> exact c.elim
theorem sh_bl (h : Res .sh B Hb F H v (.bl b)) : v = .bl b := by
  rcases h with h | ⟨p, _, w⟩
  · cases h; rfl
  · obtain ⟨o, _, c⟩ := w.con; cases o <;> exact c.elim
theorem sh_str (h : Res .sh B Hb F H v (.str x)) : v = .str x := by
  rcases h with h | ⟨p, _, w⟩
  · cases h; rfl
  · obtain ⟨o, _, c⟩ := w.con; cases o <;> exact c.elim
theorem sh_tup (e : Ex F H) (h : Res .sh B Hb F H v (.tup xs)) : ∃ p vs, v = .ref p ∧ KT H p vs ∧ Reps B F vs xs := by
  rcases h with h | ⟨p, _, w⟩
  · cases h with | tup h1 hd h2 => exact ⟨_, _, rfl, ⟨_, e _ _ h1, hd⟩, h2⟩
  · obtain ⟨o, _, c⟩ := w.con; cases o <;> exact c.elim
theorem sh_lst (e : Ex F H) (h : Res .sh B Hb F H v (.lst xs)) : ∃ p vs, v = .ref p ∧ H p = some (.lst vs) ∧ Reps B F vs xs := by
  rcases h with h | ⟨p, hv, w⟩
  · cases h with | lst h1 h2 => exact ⟨_, _, rfl, e _ _ h1, h2⟩
  · obtain ⟨o, ho, c⟩ := w.con
    cases o with
    | lst vs => exact ⟨p, vs, hv, ho, c⟩
    | _ => exact c.elim
theorem sh_dct {ks : List (Key × Dat)} (e : Ex F H) (h : Res .sh B Hb F H v (.dct ks)) : ∃ p vs, v = .ref p ∧ H p = some (.dK vs) ∧ vs.map (·.1) = ks.map (·.1) ∧ Reps B F (vs.map (·.2)) (ks.map (·.2)) := by
  rcases h with h | ⟨p, hv, w⟩
  · cases h with | dct h1 h2 h3 => exact ⟨_, _, rfl, e _ _ h1, h2, h3⟩
  · obtain ⟨o, ho, c⟩ := w.con
    cases o with
    | dK vs => exact ⟨p, vs, hv, ho, c⟩
    | _ => exact c.elim
theorem sh_dtt {ks : List (List Key × Dat)} (e : Ex F H) (h : Res .sh B Hb F H v (.dtt ks)) : ∃ p vs, v = .ref p ∧ H p = some (.dT vs) ∧ vs.map (·.1) = ks.map (·.1) ∧ Reps B F (vs.map (·.2)) (ks.map (·.2)) := by
  rcases h with h | ⟨p, hv, w⟩
  · cases h with | dtt h1 h2 h3 => exact ⟨_, _, rfl, e _ _ h1, h2, h3⟩
  · obtain ⟨o, ho, c⟩ := w.con
    cases o with
    | dT vs => exact ⟨p, vs, hv, ho, c⟩
    | _ => exact c.elim
theorem sh_dp {K : PySem.W.Frag} (e : Ex F H) {d : Dat} {n : Nat} (h : Res .sh B Hb F H v d) (hp : pl n d = true) : Dp K H v (py d) := by
  rcases h with h | ⟨p, hv, w⟩
  · exact dp_of e d h hp
  · obtain ⟨o, ho, c⟩ := w.con
    cases d with
    | lst xs =>
      cases o with
      | lst vs =>
        cases n with
        | zero => simp [pl] at hp
        | succ n =>
          subst hv
          simp only [py]
          exact .lst (SqL.of ho) (dps_of e xs c (show xs.all (pl n) = true from hp))
      | _ => exact c.elim
    | dct ks => simp [pl] at hp
    | dtt ks => simp [pl] at hp
    | obj C ks => simp [pl] at hp
    | _ => cases o <;> exact c.elim
end
def flatD : Dat → Bool
  | .non => true
  | .bl _ => true
  | .int _ => true
  | _ => false
theorem flat_rep {B : BB} {F : Hp} {v : V} {d : Dat} (h : Rep B F v d) (f : flatD d = true) : flatV v = true := by
  cases h <;> first | rfl | (simp [flatD] at f; done)
theorem flat_reps {B : BB} {F : Hp} {vs : List V} {ds : List Dat} : Reps B F vs ds → ds.all flatD = true → vs.all flatV = true := by
  intro h f
  induction ds generalizing vs with
  | nil => cases h; rfl
  | cons d ds ih =>
    cases h with
    | cons r t =>
      rw [List.all_cons, Bool.and_eq_true] at f
      rw [List.all_cons, flat_rep r f.1, ih t f.2] <;> rfl
theorem eqV_eqD {B : BB} {F F' : Hp} {v w : V} {d e : Dat} (h : Rep B F v d) (h' : Rep B F' w e) (f : flatD d = true) (f' : flatD e = true) : eqV v w = eqD d e := by
  cases h <;> first | (simp [flatD] at f; done) | (cases h' <;> first | (simp [flatD] at f'; done) | simp [eqV, eqD])
theorem inV_eqD {B : BB} {F F' : Hp} {w : V} {e : Dat} (h' : Rep B F' w e) (f' : flatD e = true) : ∀ {vs : List V} {ds : List Dat}, Reps B F vs ds → ds.all flatD = true → inV w vs = ds.any (fun d => eqD d e)
  | _, _, .nil, _ => rfl
  | _, _, .cons r t, f => by
    rw [List.all_cons, Bool.and_eq_true] at f
    have := inV_eqD h' f' t f.2
    unfold inV at this ⊢
    rw [List.any_cons, List.any_cons, eqV_eqD r h' f.1 f', this]

/-! ### operators -/
section
variable {X : Cx}
/-- a value that is no new object -/
theorem opd_same {B : BB} {F H Hb : Hp} {v : V} {d : Dat} {P : Dat → Prop} {Q : VK} (e : Ex F H) (r : Rep B F v d) (p : P d) (k : ∀ v F' H' z, Gr NoA B 0 F H F' H' → Res .rep B Hb F' H' v z → P z → Q v H') : Q v H :=
  k v F H d (Gr.refl e) r p
theorem opd_tup {B : BB} {F H Hb : Hp} {vs : List V} {ds : List Dat} {P : Dat → Prop} {Q : VK} (e : Ex F H) (r : Reps B F vs ds) (p : P (.tup ds)) (k : ∀ v F' H' z, Gr NoA B 0 F H F' H' → Res .rep B Hb F' H' v z → P z → Q v H') :
    NewT vs H Q := fun a o hd ha => by
  have g : Gr NoA B 0 F H (upd F a (.frz o (.tup vs))) (upd H a (.frz o (.tup vs))) := Gr.alloc e ha
  exact k _ _ _ _ g (Rep.tup upd_same hd (r.mono g.ex)) p
theorem opd_lst {B : BB} {F H Hb : Hp} {vs : List V} {ds : List Dat} {P : Dat → Prop} {Q : VK} (e : Ex F H) (r : Reps B F vs ds) (p : P (.lst ds)) (k : ∀ v F' H' z, Gr NoA B 0 F H F' H' → Res .rep B Hb F' H' v z → P z → Q v H') :
    ∀ a, H a = none → Q (.ref a) (upd H a (.lst vs)) := fun a ha => by
  have g : Gr NoA B 0 F H (upd F a (.lst vs)) (upd H a (.lst vs)) := Gr.alloc e ha
  exact k _ _ _ _ g (Rep.lst upd_same (r.mono g.ex)) p
/-- .. a new list of one's own -/
theorem opd_own {B : BB} {F H Hb : Hp} {vs : List V} {ds : List Dat} {P : Dat → Prop} {Q : VK} (e : Ex F H) (hb : ∀ a, H a = none → Hb a = none) (bx : ∀ b, B.has b → ∃ o, H b = some o) (r : Reps B F vs ds) (p : P (.lst ds)) (k : ∀ v F' H' z, Gr NoA B 0 F H F' H' → Res .fr B Hb F' H' v z → P z → Q v H') :
    ∀ a, H a = none → Q (.ref a) (upd H a (.lst vs)) := fun a ha => by
  have g : Gr NoA B 0 F H F (upd H a (.lst vs)) := Gr.alloc0 e ha
  refine k _ _ _ (.lst ds) g ⟨a, rfl, ⟨e.back ha, fun q => ?_, .lst vs, upd_same, (show Cont B F (.lst vs) (.lst ds) from r)⟩, hb a ha⟩ p
  obtain ⟨o, ho⟩ := bx a q
  rw [ha] at ho
  cases ho

/-! ints -/
def fI (g : Int → Int → Int) (C : Int → Int → Prop) : Dat → Dat → (Dat → Prop) → Prop
  | .int i, .int j, P => C i j ∧ P (.int (g i j))
  | _, _, _ => False
theorem od_I {C : Int → Int → Prop} {g : Int → Int → Int} : OpD .rep (rI C fun i j => .int (g i j)) (fI g C) := fun B F H Hb x y d e P Q ex hb bx hx hy h k => by
  cases d <;> cases e <;> first | exact h.elim | skip
  cases sh_int hx
  cases sh_int hy
  exact ⟨_, _, rfl, rfl, h.1, opd_same ex .int h.2 k⟩
theorem od_I0 {g : Int → Int → Int} : OpD .rep (rI0 fun i j => .int (g i j)) (fI g fun _ _ => True) := fun B F H Hb x y d e P Q ex hb bx hx hy h k => by
  cases d <;> cases e <;> first | exact h.elim | skip
  cases sh_int hx
  cases sh_int hy
  exact ⟨_, _, rfl, rfl, opd_same ex .int h.2 k⟩
def fC (g : Int → Int → Bool) : Dat → Dat → (Dat → Prop) → Prop
  | .int i, .int j, P => P (.bl (g i j))
  | _, _, _ => False
theorem od_C {g : Int → Int → Bool} : OpD .rep (rI0 fun i j => .bl (g i j)) (fC g) := fun B F H Hb x y d e P Q ex hb bx hx hy h k => by
  cases d <;> cases e <;> first | exact h.elim | skip
  cases sh_int hx
  cases sh_int hy
  exact ⟨_, _, rfl, rfl, opd_same ex .bl h k⟩
theorem OpD.or {m : Md} {r r' : R2} {f f' : Dat → Dat → (Dat → Prop) → Prop} (h : OpD m r f) (h' : OpD m r' f') : OpD m (fun x y H Q => r x y H Q ∨ r' x y H Q) (fun d e P => f d e P ∨ f' d e P) := fun B F H Hb x y d e P Q ex hb bx hx hy h1 k => by
  rcases h1 with h1 | h1
  · exact .inl (h B F H Hb x y d e P Q ex hb bx hx hy h1 k)
  · exact .inr (h' B F H Hb x y d e P Q ex hb bx hx hy h1 k)
theorem OpD.imp {m : Md} {r : R2} {f f' : Dat → Dat → (Dat → Prop) → Prop} (h : OpD m r f) (hi : ∀ d e P, f' d e P → f d e P) : OpD m r f' := fun B F H Hb x y d e P Q ex hb bx hx hy h1 k => h B F H Hb x y d e P Q ex hb bx hx hy (hi d e P h1) k

/-! + -/
def fAdd : Dat → Dat → (Dat → Prop) → Prop
  | .int i, .int j, P => P (.int (i + j))
  | .int i, .bl k, P => P (.int (i + PyProof.Rows.b2i k))
  | .tup xs, .tup ys, P => xs.length + ys.length ≤ 100000 ∧ P (.tup (xs ++ ys))
  | .lst xs, .lst ys, P => xs.length + ys.length ≤ 100000 ∧ P (.lst (xs ++ ys))
  | _, _, _ => False
theorem sz5 {n : Nat} (h : n ≤ 100000) : n ≤ sizeLine := Nat.le_trans h (by decide)
theorem sz5lt {n : Nat} (h : n ≤ 100000) : n < sizeLine := Nat.lt_of_le_of_lt h (by decide)
def rAddA (K : PySem.W.Frag) : R2 := fun x y H Q => rI0 (fun i j => .int (i + j)) x y H Q ∨ ((∃ i k, x = .int i ∧ y = .bl k ∧ Q (.int (i + PyProof.Rows.b2i k)) H) ∨ (rCat x y H Q ∨ rCatF K x y H Q))
theorem op_addA : OpR X (binaryOp .Add) (rAddA X.K) := op_add.or (op_add_ib.or (op_cat.or op_catF))
theorem od_add : OpD .rep (rAddA X.K) fAdd := fun B F H Hb x y d e P Q ex hb bx hx hy h k => by
  cases d <;> cases e <;> first | exact h.elim | skip
  · cases sh_int hx
    cases sh_bl hy
    exact .inr (.inl ⟨_, _, rfl, rfl, opd_same ex .int h k⟩)
  · cases sh_int hx
    cases sh_int hy
    exact .inl ⟨_, _, rfl, rfl, opd_same ex .int h k⟩
  · obtain ⟨p, vs, rfl, h1, h2⟩ := sh_tup ex hx
    obtain ⟨q, ws, rfl, h3, h4⟩ := sh_tup ex hy
    refine .inr (.inr (.inr ⟨p, q, vs, ws, rfl, rfl, h1.sq, h3.sq, by rw [h2.length, h4.length]; exact sz5 h.1, fun e1 => ?_, fun _ e1 => ?_, fun _ _ => opd_tup ex (h2.append h4) h.2 k⟩))
    · subst e1
      cases h2
      rcases hy with hy | ⟨p', hv, w⟩
      · exact opd_same ex hy h.2 k
      · obtain ⟨o, _, c⟩ := w.con; cases o <;> exact c.elim
    · subst e1
      cases h4
      have h5 := h.2
      rw [List.append_nil] at h5
      rcases hx with hx | ⟨p', hv, w⟩
      · exact opd_same ex hx h5 k
      · obtain ⟨o, _, c⟩ := w.con; cases o <;> exact c.elim
  · obtain ⟨p, vs, rfl, h1, h2⟩ := sh_lst ex hx
    obtain ⟨q, ws, rfl, h3, h4⟩ := sh_lst ex hy
    exact .inr (.inr (.inl ⟨p, q, vs, ws, rfl, rfl, h1, h3, by rw [h2.length, h4.length]; exact sz5 h.1, opd_lst ex (h2.append h4) h.2 k⟩))
/-! * : ints, list * int (new, of one's own, or to stay) -/
def fMul : Dat → Dat → (Dat → Prop) → Prop
  | .int i, .int j, P => CMul i j ∧ P (.int (i * j))
  | .lst xs, .int j, P => j < 1000 ∧ -1000 < j ∧ xs.length ≤ 100 ∧ P (.lst (List.replicate j.toNat xs).flatten)
  | .tup xs, .int j, P => j < 1000 ∧ -1000 < j ∧ xs.length ≤ 100 ∧ P (.tup (List.replicate j.toNat xs).flatten)
  | _, _, _ => False
def rMulA (K : PySem.W.Frag) : R2 := fun x y H Q => rI CMul (fun i j => .int (i * j)) x y H Q ∨ (rRep x y H Q ∨ rRepF K x y H Q)
theorem op_mulA : OpR X (binaryOp .Mult) (rMulA X.K) := op_mul.or (op_rep.or op_repF)
theorem rep_sz {xs : List V} {j : Int} (h : j < 1000) (hx : xs.length ≤ 100) : xs.length * j.toNat ≤ sizeLine := by
  refine Nat.le_trans (Nat.mul_le_mul hx (show j.toNat ≤ 1000 by omega)) (by decide)
theorem od_mul : OpD .rep (rMulA X.K) fMul := fun B F H Hb x y d e P Q ex hb bx hx hy h k => by
  cases d <;> cases e <;> first | exact h.elim | skip
  · cases sh_int hx
    cases sh_int hy
    exact .inl ⟨_, _, rfl, rfl, h.1, opd_same ex .int h.2 k⟩
  · obtain ⟨p, vs, rfl, h1, h2⟩ := sh_tup ex hx
    cases sh_int hy
    obtain ⟨a1, a2, a3, a4⟩ := h
    refine .inr (.inr ⟨p, _, vs, rfl, rfl, h1.sq, by omega, by omega, by rw [h2.length]; omega, fun z => ?_, fun _ => opd_tup ex (h2.flatten _) a4 k⟩)
    rename_i xs j
    have e : (List.replicate j.toNat xs).flatten = xs := by
      rcases z with z | z
      · subst z
        cases h2
        simp
      · subst z
        simp
    rw [e] at a4
    rcases hx with hx | ⟨p', hv, w⟩
    · exact opd_same ex hx a4 k
    · obtain ⟨o, _, c⟩ := w.con; cases o <;> exact c.elim
  · obtain ⟨p, vs, rfl, h1, h2⟩ := sh_lst ex hx
    cases sh_int hy
    obtain ⟨a1, a2, a3, a4⟩ := h
    exact .inr (.inl ⟨p, _, vs, rfl, rfl, h1, by omega, by omega, rep_sz a1 (by rw [h2.length]; exact a3), opd_lst ex (h2.flatten _) a4 k⟩)
def fRepL : Dat → Dat → (Dat → Prop) → Prop
  | .lst xs, .int j, P => j < 1000 ∧ -1000 < j ∧ xs.length ≤ 100 ∧ P (.lst (List.replicate j.toNat xs).flatten)
  | _, _, _ => False
theorem od_repL : OpD .fr rRep fRepL := fun B F H Hb x y d e P Q ex hb bx hx hy h k => by
  cases d <;> cases e <;> first | exact h.elim | skip
  obtain ⟨p, vs, rfl, h1, h2⟩ := sh_lst ex hx
  cases sh_int hy
  obtain ⟨a1, a2, a3, a4⟩ := h
  exact ⟨p, _, vs, rfl, rfl, h1, by omega, by omega, rep_sz a1 (by rw [h2.length]; exact a3), opd_own ex hb bx (h2.flatten _) a4 k⟩

/-! == -/
def fEq : Dat → Dat → (Dat → Prop) → Prop := fun d e P => pl 20 d = true ∧ pl 20 e = true ∧ P (.bl (eqD d e))
def fNe : Dat → Dat → (Dat → Prop) → Prop := fun d e P => pl 20 d = true ∧ pl 20 e = true ∧ P (.bl (!eqD d e))
theorem od_eq : OpD .rep (rEqD X.K) fEq := fun B F H Hb x y d e P Q ex hb bx hx hy h k => by
  refine ⟨py d, py e, sh_dp ex hx h.1, sh_dp ex hy h.2.1, shaped_of h.1 (by decide), shaped_of h.2.1 (by decide), ?_⟩
  rw [eqv_py d e h.1 h.2.1]
  exact opd_same ex .bl h.2.2 k
theorem od_ne : OpD .rep (rNeD X.K) fNe := fun B F H Hb x y d e P Q ex hb bx hx hy h k => by
  refine ⟨py d, py e, sh_dp ex hx h.1, sh_dp ex hy h.2.1, shaped_of h.1 (by decide), shaped_of h.2.1 (by decide), ?_⟩
  rw [eqv_py d e h.1 h.2.1]
  exact opd_same ex .bl h.2.2 k
/-! is None, is of bools -/
def isNon : Dat → Bool
  | .non => true
  | _ => false
theorem isNon_sh {B : BB} {Hb F H : Hp} {v : V} {d : Dat} (h : Res .sh B Hb F H v d) : decide (v = .non) = isNon d := by
  rcases h with h | ⟨p, hv, w⟩
  · cases h <;> simp [isNon]
  · subst hv
    obtain ⟨o, _, c⟩ := w.con
    cases o <;> cases d <;> first | exact c.elim | simp [isNon]
def fIs (neg : Bool) : Dat → Dat → (Dat → Prop) → Prop
  | .bl a, .bl b, P => P (.bl (neg != (a == b)))
  | d, .non, P => P (.bl (neg != isNon d))
  | _, _, _ => False
def rIsA : R2 := fun x y H Q => (y = .non ∧ Q (.bl (decide (x = .non))) H) ∨ (∃ a b, x = .bl a ∧ y = .bl b ∧ Q (.bl (decide (a = b))) H)
def rIsnA : R2 := fun x y H Q => (y = .non ∧ Q (.bl (!decide (x = .non))) H) ∨ (∃ a b, x = .bl a ∧ y = .bl b ∧ Q (.bl (!decide (a = b))) H)
theorem op_isA : OpR X (compareOp .Is) rIsA := op_isN.or op_is_bl
theorem op_isnA : OpR X (compareOp .IsNot) rIsnA := op_notN.or op_isnot_bl
theorem od_is : OpD .rep rIsA (fIs false) := fun B F H Hb x y d e P Q ex hb bx hx hy h k => by
  cases e with
  | non =>
    cases sh_non hy
    refine .inl ⟨rfl, ?_⟩
    rw [isNon_sh hx]
    refine opd_same ex .bl ?_ k
    cases d <;> simpa [fIs] using h
  | bl b =>
    cases d with
    | bl a =>
      cases sh_bl hx
      cases sh_bl hy
      refine .inr ⟨_, _, rfl, rfl, opd_same ex .bl ?_ k⟩
      have h1 : P (.bl (false != (a == b))) := h
      have e1 : (false != (a == b)) = decide (a = b) := by cases a <;> cases b <;> rfl
      rw [e1] at h1
      exact h1
    | _ => exact h.elim
  | _ => cases d <;> exact h.elim
theorem od_isn : OpD .rep rIsnA (fIs true) := fun B F H Hb x y d e P Q ex hb bx hx hy h k => by
  cases e with
  | non =>
    cases sh_non hy
    refine .inl ⟨rfl, ?_⟩
    rw [isNon_sh hx]
    refine opd_same ex .bl ?_ k
    cases d <;> simpa [fIs, isNon] using h
  | bl b =>
    cases d with
    | bl a =>
      cases sh_bl hx
      cases sh_bl hy
      refine .inr ⟨_, _, rfl, rfl, opd_same ex .bl ?_ k⟩
      have h1 : P (.bl (true != (a == b))) := h
      have e1 : (true != (a == b)) = !decide (a = b) := by cases a <;> cases b <;> rfl
      rw [e1] at h1
      exact h1
    | _ => exact h.elim
  | _ => cases d <;> exact h.elim
/-! in: lists (deep), tuples (flat), dicts -/
def keyD : Dat → Option Key
  | .int i => some (.inl i)
  | _ => none
def keysD : Dat → Option (List Key)
  | .tup xs => xs.mapM keyD
  | _ => none
def lookD {κ : Type} [DecidableEq κ] (kvs : List (κ × Dat)) (k : κ) : Option Dat := (kvs.find? fun kv => decide (kv.1 = k)).map (·.2)
theorem look_some {κ : Type} [DecidableEq κ] {B : BB} {F : Hp} {k : κ} : ∀ {vs : List (κ × V)} {ks : List (κ × Dat)}, vs.map (·.1) = ks.map (·.1) → Reps B F (vs.map (·.2)) (ks.map (·.2)) →
    (∀ d, lookD ks k = some d → ∃ v, valV vs k = some v ∧ Rep B F v d) ∧ (lookD ks k = none → valV vs k = none)
  | [], [], _, _ => ⟨fun d h => by simp [lookD] at h, fun _ => rfl⟩
  | [], _ :: _, h, _ => by simp at h
  | _ :: _, [], h, _ => by simp at h
  | (k1, v) :: vs, (k2, d) :: ks, h, r => by
    simp only [List.map_cons, List.cons.injEq] at h
    obtain ⟨rfl, h⟩ := h
    simp only [List.map_cons] at r
    cases r with
    | cons r1 r2 =>
      have ih := look_some (k := k) h r2
      by_cases e : k1 = k
      · subst e
        refine ⟨fun d' h' => ⟨v, by simp [valV], ?_⟩, fun h' => by simp [lookD] at h'⟩
        simp [lookD] at h'
        subst h'
        exact r1
      · have e1 : lookD ((k1, d) :: ks) k = lookD ks k := by simp [lookD, e]
        have e2 : valV ((k1, v) :: vs) k = valV vs k := by simp [valV, e]
        rw [e1, e2]
        exact ih
def fIn (neg : Bool) : Dat → Dat → (Dat → Prop) → Prop
  | d, .lst xs, P => pl 20 d = true ∧ pl 20 (.lst xs) = true ∧ P (.bl (neg != xs.any fun z => eqD z d))
  | d, .tup xs, P => flatD d = true ∧ xs.all flatD = true ∧ P (.bl (neg != xs.any fun z => eqD z d))
  | d, .dct ks, P => ∃ k, keyD d = some k ∧ P (.bl (neg != (lookD ks k).isSome))
  | _, _, _ => False
def rDIn : R2 := fun y x H Q => ∃ a o, x = .ref a ∧ DGet H a y o ∧ Q (.bl o.isSome) H
def rDNotIn : R2 := fun y x H Q => ∃ a o, x = .ref a ∧ DGet H a y o ∧ Q (.bl (!o.isSome)) H
theorem op_din (hu : X.A.units + 1 < cLine) : OpR X (compareOp .In) rDIn := fun pins s σ H y x iv u Q I ry rx h => by
  obtain ⟨a, o, rfl, g, q⟩ := h
  obtain rfl : u = Value.ref a := rx
  exact d_in hu I g ry fun s' I' => ⟨.bl o.isSome, H, I', rfl, q⟩
theorem op_dnotin (hu : X.A.units + 1 < cLine) : OpR X (compareOp .NotIn) rDNotIn := fun pins s σ H y x iv u Q I ry rx h => by
  obtain ⟨a, o, rfl, g, q⟩ := h
  obtain rfl : u = Value.ref a := rx
  exact d_notIn hu I g ry fun s' I' => ⟨.bl (!o.isSome), H, I', rfl, q⟩
def rInA (K : PySem.W.Frag) : R2 := fun x y H Q => rIn K false x y H Q ∨ (rInD K x y H Q ∨ rDIn x y H Q)
def rNotInA (K : PySem.W.Frag) : R2 := fun x y H Q => rIn K true x y H Q ∨ (rNotInD K x y H Q ∨ rDNotIn x y H Q)
theorem op_inA (hu : X.A.units + 65 < cLine) : OpR X (compareOp .In) (rInA X.K) := op_in_seq.or ((op_inD hu).or (op_din (by omega)))
theorem op_notinA (hu : X.A.units + 65 < cLine) : OpR X (compareOp .NotIn) (rNotInA X.K) := op_notIn_seq.or ((op_notInD hu).or (op_dnotin (by omega)))
theorem pys_any {d : Dat} {n : Nat} (hd : pl n d = true) : ∀ {xs : List Dat} {m : Nat}, xs.all (pl m) = true → ((pys xs).any fun z => PyData.eqv z (py d)) = xs.any fun z => eqD z d
  | [], _, _ => by simp [pys]
  | x :: xs, m, h => by
    rw [List.all_cons, Bool.and_eq_true] at h
    simp only [pys, List.any_cons, eqv_py x d h.1 hd, pys_any hd h.2]
theorem keyD_rep {B : BB} {F : Hp} {v : V} {d : Dat} {k : Key} (r : Rep B F v d) (h : keyD d = some k) : v = kV k := by
  cases r <;> simp [keyD] at h
  subst h
  rfl
theorem keysD_rep {B : BB} {F : Hp} : ∀ {vs : List V} {ds : List Dat} {ks : List Key}, Reps B F vs ds → ds.mapM keyD = some ks → vs = ks.map kV
  | _, [], ks, .nil, h => by
    simp at h
    subst h
    rfl
  | _, d :: ds, ks, .cons r t, h => by
    simp only [List.mapM_cons] at h
    cases e1 : keyD d with
    | none => rw [e1] at h; simp at h
    | some k =>
      rw [e1] at h
      cases e2 : ds.mapM keyD with
      | none => rw [e2] at h; simp at h
      | some ks' =>
        rw [e2] at h
        simp at h
        subst h
        rw [List.map_cons, keyD_rep r e1, keysD_rep t e2]
theorem sh_key {B : BB} {Hb F H : Hp} {v : V} {d : Dat} {k : Key} (hx : Res .sh B Hb F H v d) (h : keyD d = some k) : v = kV k := by
  rcases hx with r | ⟨p, _, w⟩
  · exact keyD_rep r h
  · obtain ⟨o, _, c⟩ := w.con
    cases d <;> first | (simp [keyD] at h; done) | (cases o <;> exact c.elim)
theorem dget_k {B : BB} {F H : Hp} {v : V} {d : Dat} {Hb : Hp} {k : Key} {p : Addr} {vs : List (Key × V)} {ks : List (Key × Dat)} (hx : Res .sh B Hb F H v d) (h : keyD d = some k) (hp : H p = some (.dK vs)) : DGet H p v (valV vs k) := by
  rw [sh_key hx h]
  exact DGet.k hp
theorem look_isSome {κ : Type} [DecidableEq κ] {B : BB} {F : Hp} {k : κ} {vs : List (κ × V)} {ks : List (κ × Dat)} (h : vs.map (·.1) = ks.map (·.1)) (r : Reps B F (vs.map (·.2)) (ks.map (·.2))) : (valV vs k).isSome = (lookD ks k).isSome := by
  obtain ⟨h1, h2⟩ := look_some (k := k) h r
  cases e : lookD ks k with
  | none => rw [h2 e]; rfl
  | some d => obtain ⟨v, hv, _⟩ := h1 d e; rw [hv]; rfl
theorem od_in : OpD .rep (rInA X.K) (fIn false) := fun B F H Hb x y d e P Q ex hb bx hx hy h k => by
  cases e with
  | lst xs =>
    obtain ⟨h1, h2, h3⟩ := h
    refine .inr (.inl ⟨py d, pys xs, sh_dp ex hx h1, ?_, shaped_of h1 (by decide), ?_, ?_⟩)
    · have := sh_dp (K := X.K) ex hy h2
      simpa only [py] using this
    · have := shaped_of h2 (by decide)
      simpa only [py] using this
    · rw [pys_any h1 (m := 19) h2]
      refine opd_same ex .bl ?_ k
      simpa using h3
  | tup xs =>
    obtain ⟨h1, h2, h3⟩ := h
    obtain ⟨p, vs, rfl, h4, h5⟩ := sh_tup ex hy
    have hx' : Rep B F x d := by
      rcases hx with r | ⟨p, _, w⟩
      · exact r
      · obtain ⟨o, _, c⟩ := w.con
        cases d <;> first | (simp [flatD] at h1; done) | (cases o <;> exact c.elim)
    refine .inl ⟨p, vs, rfl, .inr h4.sq, flat_rep hx' h1, flat_reps h5 h2, ?_⟩
    rw [if_neg Bool.false_ne_true, inV_eqD hx' h1 h5 h2]
    refine opd_same ex .bl ?_ k
    simpa using h3
  | dct ks =>
    obtain ⟨kk, h1, h2⟩ := h
    obtain ⟨p, vs, rfl, h4, h5, h6⟩ := sh_dct ex hy
    refine .inr (.inr ⟨p, _, rfl, dget_k (ks := ks) hx h1 h4, ?_⟩)
    rw [look_isSome h5 h6]
    refine opd_same ex .bl ?_ k
    simpa using h2
  | _ => exact h.elim
theorem od_notin : OpD .rep (rNotInA X.K) (fIn true) := fun B F H Hb x y d e P Q ex hb bx hx hy h k => by
  cases e with
  | lst xs =>
    obtain ⟨h1, h2, h3⟩ := h
    refine .inr (.inl ⟨py d, pys xs, sh_dp ex hx h1, ?_, shaped_of h1 (by decide), ?_, ?_⟩)
    · have := sh_dp (K := X.K) ex hy h2
      simpa only [py] using this
    · have := shaped_of h2 (by decide)
      simpa only [py] using this
    · rw [pys_any h1 (m := 19) h2]
      refine opd_same ex .bl ?_ k
      simpa using h3
  | tup xs =>
    obtain ⟨h1, h2, h3⟩ := h
    obtain ⟨p, vs, rfl, h4, h5⟩ := sh_tup ex hy
    have hx' : Rep B F x d := by
      rcases hx with r | ⟨p, _, w⟩
      · exact r
      · obtain ⟨o, _, c⟩ := w.con
        cases d <;> first | (simp [flatD] at h1; done) | (cases o <;> exact c.elim)
    refine .inl ⟨p, vs, rfl, .inr h4.sq, flat_rep hx' h1, flat_reps h5 h2, ?_⟩
    rw [if_pos rfl, inV_eqD hx' h1 h5 h2]
    refine opd_same ex .bl ?_ k
    simpa using h3
  | dct ks =>
    obtain ⟨kk, h1, h2⟩ := h
    obtain ⟨p, vs, rfl, h4, h5, h6⟩ := sh_dct ex hy
    refine .inr (.inr ⟨p, _, rfl, dget_k (ks := ks) hx h1 h4, ?_⟩)
    rw [look_isSome h5 h6]
    refine opd_same ex .bl ?_ k
    simpa using h2
  | _ => exact h.elim
/-! subscripts -/
def fIx : Dat → Dat → (Dat → Prop) → Prop
  | .lst xs, .int i, P => ∃ d, atI xs i = some d ∧ P d
  | .tup xs, .int i, P => ∃ d, atI xs i = some d ∧ P d
  | .dct ks, d, P => ∃ k e, keyD d = some k ∧ lookD ks k = some e ∧ P e
  | _, _, _ => False
def rDIx : R2 := fun x y H Q => ∃ a v, x = .ref a ∧ DGet H a y (some v) ∧ Q v H
theorem ix_dict (hu : X.A.units + 1 < cLine) : IxR X rDIx := by
  intro value slice pins s σ H x y v u Q I rx ry h hs
  obtain ⟨a, w, rfl, g, q⟩ := h
  obtain rfl : v = Value.ref a := rx
  exact PyProof.Rows.tail_any (dict_typeIs I g) PySem.F.slot_dict_getitem.lookup (d_getItem hu I g ry fun w' s3 I3 rw' => ⟨w, H, I3, rw', q⟩) hs
def rIxA (K : PySem.W.Frag) : R2 := fun x y H Q => rIxL K x y H Q ∨ (rIxT K x y H Q ∨ rDIx x y H Q)
theorem ix_all (hu : X.A.units + 1 < cLine) : IxR X (rIxA X.K) := ix_list.or (ix_tup.or (ix_dict hu))
theorem atI_reps {B : BB} {F : Hp} {vs : List V} {ds : List Dat} {i : Int} {d : Dat} (r : Reps B F vs ds) (h : atI ds i = some d) : ∃ v, atI vs i = some v ∧ Rep B F v d := by
  unfold atI at h ⊢
  rw [r.length]
  cases e : ixN ds.length i with
  | none => rw [e] at h; cases h
  | some j =>
    rw [e] at h
    exact r.get h
theorem od_ix : OpD .rep (rIxA X.K) fIx := fun B F H Hb x y d e P Q ex hb bx hx hy h k => by
  cases d with
  | lst xs =>
    cases e <;> first | exact h.elim | skip
    obtain ⟨z, h1, h2⟩ := h
    obtain ⟨p, vs, rfl, h4, h5⟩ := sh_lst ex hx
    cases sh_int hy
    obtain ⟨v, h6, h7⟩ := atI_reps h5 h1
    exact .inl ⟨p, vs, _, v, rfl, rfl, SqL.of h4, h6, opd_same ex h7 h2 k⟩
  | tup xs =>
    cases e <;> first | exact h.elim | skip
    obtain ⟨z, h1, h2⟩ := h
    obtain ⟨p, vs, rfl, h4, h5⟩ := sh_tup ex hx
    cases sh_int hy
    obtain ⟨v, h6, h7⟩ := atI_reps h5 h1
    exact .inr (.inl ⟨p, vs, _, v, rfl, rfl, h4.sq, h6, opd_same ex h7 h2 k⟩)
  | dct ks =>
    obtain ⟨kk, z, h1, h2, h3⟩ := h
    obtain ⟨p, vs, rfl, h4, h5, h6⟩ := sh_dct ex hx
    obtain ⟨v, h7, h8⟩ := (look_some (k := kk) h5 h6).1 z h2
    refine .inr (.inr ⟨p, v, rfl, ?_, opd_same ex h8 h3 k⟩)
    rw [← h7]
    exact dget_k (ks := ks) hy h1 h4
  | _ => exact h.elim
end
end DL
set_option maxRecDepth 100000
set_option maxHeartbeats 1000000
/-! DL5: tests, displays, slices, calls, objects, a def's promise by data. -/
namespace DL
open PySem L2
variable [TabC]

section
variable {X : Cx} {e a b t0 : Expr} {rest : List Expr} {m : Md} {c c1 c2 c3 : Nat} {T Ta Tb Tc : TD} {Tt Tu : TTD} {pos : Pos}
/-! ### tests -/
def tV (T : TD) : TTD := fun ε P => T ε fun d => ∃ b, d = .bl b ∧ P b
theorem tv_run : ∀ σ H Q, liftT c (tV T) σ H Q → (fun σ H Q => lift .rep c T σ H fun x H1 => ∃ k, x = .bl k ∧ Q k H1 : TT) σ H Q := fun σ H Q ⟨A, B, F, ε, P, n, r, bx, hn, t, k⟩ =>
  ⟨A, B, F, ε, _, n, r, bx, hn, t, fun v F' H' d g q ⟨b, e, p⟩ => by
    subst e
    cases q
    exact ⟨b, rfl, k b F' H' g p⟩⟩
theorem ptd_val (h : PD .rep X c e T) (he : ∀ whole, isTrue e X.env whole = (do let v ← whole; standAt e.pos; holding [v] (truthy v)) := by intro _; rfl) : PTD X c e (tV T) := pt_weak (pt_val h he) tv_run
theorem ptd_cmp {op : CmpOp} {r : R2} {f : Dat → Dat → (Dat → Prop) → Prop} (ho : OpR X (compareOp op) r) (hr : OpD .rep r f) (ha : PD .sh X c1 a Ta) (hb : PD .sh X c2 b Tb) (hm : behindInMarks op b = false) : PTD X (c1 + c2) (.Compare a [op] [b] pos) (tV (dOp f Ta Tb)) :=
  pt_weak (pt_cmpR ho ha hb hm) fun σ H Q h => by
    obtain ⟨A, B, F, ε, P, n, rs, bx, hn, t, k⟩ := h
    exact op_run hr σ H _ ⟨A, B, F, ε, _, n, rs, bx, hn, t, fun v F' H' d g q ⟨b, e, p⟩ => by
      subst e
      cases q
      exact ⟨b, rfl, k b F' H' g p⟩⟩
def tNt (Tt : TTD) : TTD := fun ε P => Tt ε fun b => P (!b)
theorem ptd_not (h : PTD X c a Tt) : PTD X c (.UnaryOp .Not a pos) (tNt Tt) := pt_weak (pt_not h) fun σ H Q ⟨A, B, F, ε, P, n, r, bx, hn, t, k⟩ =>
  ⟨A, B, F, ε, _, n, r, bx, hn, t, fun b F' H' g p => k (!b) F' H' g p⟩
def tAn (Tt Tu : TTD) : TTD := fun ε P => Tt ε fun b => if b = true then Tu ε P else P false
def tOr (Tt Tu : TTD) : TTD := fun ε P => Tt ε fun b => if b = true then P true else Tu ε P
theorem pwd_and1 (h : PTD X c a Tt) : PWD X c (.BoolOp .And [a] pos) Tt := pw_and1 h
theorem pwd_or1 (h : PTD X c a Tt) : PWD X c (.BoolOp .Or [a] pos) Tt := pw_or1 h
theorem pwd_and (h : PTD X c1 a Tt) (h2 : PWD X c2 (.BoolOp .And (b :: rest) pos) Tu) : PWD X (c1 + c2) (.BoolOp .And (a :: b :: rest) pos) (tAn Tt Tu) := pw_weak (pw_and h h2) fun σ H Q ⟨A, B, F, ε, P, n, r, bx, hn, t, k⟩ => by
  refine ⟨A, B, F, ε, _, n, r, bx, by omega, t, fun b F1 H1 g1 p => ?_⟩
  cases b with
  | true => exact ⟨A, B, F1, ε, P, n + c1, r.gr g1, g1.box n bx, by omega, p, fun b F' H' g => k b F' H' (g1.trans g)⟩
  | false => exact k false F1 H1 (g1.mono (by omega)) p
theorem pwd_or (h : PTD X c1 a Tt) (h2 : PWD X c2 (.BoolOp .Or (b :: rest) pos) Tu) : PWD X (c1 + c2) (.BoolOp .Or (a :: b :: rest) pos) (tOr Tt Tu) := pw_weak (pw_or h h2) fun σ H Q ⟨A, B, F, ε, P, n, r, bx, hn, t, k⟩ => by
  refine ⟨A, B, F, ε, _, n, r, bx, by omega, t, fun b F1 H1 g1 p => ?_⟩
  cases b with
  | false => exact ⟨A, B, F1, ε, P, n + c1, r.gr g1, g1.box n bx, by omega, p, fun b F' H' g => k b F' H' (g1.trans g)⟩
  | true => exact k true F1 H1 (g1.mono (by omega)) p
theorem PWD.pt (h : PWD X c e Tt) : PTD X c e Tt := PW.pt h
/-! as values -/
def dAn (Ta Tb : TD) : TD := fun ε P => Ta ε fun d => ∃ b, d = .bl b ∧ if b = true then Tb ε P else P (.bl false)
def dOr (Ta Tb : TD) : TD := fun ε P => Ta ε fun d => ∃ b, d = .bl b ∧ if b = true then P (.bl true) else Tb ε P
def dNt (Ta : TD) : TD := fun ε P => Ta ε fun d => ∃ b, d = .bl b ∧ P (.bl (!b))
theorem pd_one {op} (h : PD .rep X c a T) : PD .rep X c (.BoolOp op [a] pos) T := pe_one h
theorem pd_and (h : PD .rep X c1 a Ta) (h2 : PD .rep X c2 (.BoolOp .And (b :: rest) pos) Tb) : PD .rep X (c1 + c2) (.BoolOp .And (a :: b :: rest) pos) (dAn Ta Tb) := pe_weak (pe_and h h2) fun σ H Q ⟨A, B, F, ε, P, n, r, bx, hn, t, k⟩ => by
  refine ⟨A, B, F, ε, _, n, r, bx, by omega, t, fun v F1 H1 d g1 q ⟨b, e, p⟩ => ?_⟩
  subst e
  cases q
  refine ⟨b, rfl, ?_⟩
  cases b with
  | true => exact ⟨A, B, F1, ε, P, n + c1, r.gr g1, g1.box n bx, by omega, p, fun v F' H' d g => k v F' H' d (g1.trans g)⟩
  | false => exact k _ F1 H1 _ (g1.mono (by omega)) Rep.bl p
theorem pd_or (h : PD .rep X c1 a Ta) (h2 : PD .rep X c2 (.BoolOp .Or (b :: rest) pos) Tb) : PD .rep X (c1 + c2) (.BoolOp .Or (a :: b :: rest) pos) (dOr Ta Tb) := pe_weak (pe_or h h2) fun σ H Q ⟨A, B, F, ε, P, n, r, bx, hn, t, k⟩ => by
  refine ⟨A, B, F, ε, _, n, r, bx, by omega, t, fun v F1 H1 d g1 q ⟨b, e, p⟩ => ?_⟩
  subst e
  cases q
  refine ⟨b, rfl, ?_⟩
  cases b with
  | false => exact ⟨A, B, F1, ε, P, n + c1, r.gr g1, g1.box n bx, by omega, p, fun v F' H' d g => k v F' H' d (g1.trans g)⟩
  | true => exact k _ F1 H1 _ (g1.mono (by omega)) Rep.bl p
theorem pd_not (h : PD .rep X c a Ta) : PD .rep X c (.UnaryOp .Not a pos) (dNt Ta) := pe_weak (pe_not h) fun σ H Q ⟨A, B, F, ε, P, n, r, bx, hn, t, k⟩ =>
  ⟨A, B, F, ε, _, n, r, bx, hn, t, fun v F1 H1 d g1 q ⟨b, e, p⟩ => by
    subst e
    cases q
    exact ⟨b, rfl, k _ F1 H1 _ g1 Rep.bl p⟩⟩
def dIf (Tt : TTD) (Ta Tb : TD) : TD := fun ε P => Tt ε fun b => if b = true then Ta ε P else Tb ε P
theorem pd_if (ht : PTD X c1 t0 Tt) (ha : PD m X c2 a Ta) (hb : PD m X c3 b Tb) : PD m X (c1 + (c2 + c3)) (.IfExp t0 a b pos) (dIf Tt Ta Tb) := pe_weak (pe_ifExp ht ha hb) fun σ H Q ⟨A, B, F, ε, P, n, r, bx, hn, t, k⟩ => by
  refine ⟨A, B, F, ε, _, n, r, bx, by omega, t, fun b F1 H1 g1 p => ?_⟩
  have up : ∀ {v F' H' d}, Res m B H1 F' H' v d → Res m B H F' H' v d := fun {v F' H' d} h => by
    cases m with
    | rep => exact h
    | sh => exact h
    | fr =>
      obtain ⟨p, h1, h2, h3⟩ := h
      exact ⟨p, h1, h2, g1.free h3⟩
  cases b with
  | true => exact ⟨A, B, F1, ε, P, n + c1, r.gr g1, g1.box n bx, by omega, p, fun v F' H' d g q => k v F' H' d ((g1.trans g).mono (by omega)) (up q)⟩
  | false => exact ⟨A, B, F1, ε, P, n + c1, r.gr g1, g1.box n bx, by omega, p, fun v F' H' d g q => k v F' H' d ((g1.trans g).mono (by omega)) (up q)⟩
/-- a < b < c -/
def dCh (f f' : Dat → Dat → (Dat → Prop) → Prop) (Ta Tb Tc : TD) : TD := fun ε P => Ta ε fun x => Tb ε fun y => f x y fun z => ∃ k, z = .bl k ∧ if k = true then Tc ε fun w => f' y w P else P (.bl false)
theorem ch_run {r r' : R2} {f f' : Dat → Dat → (Dat → Prop) → Prop} (hr : OpD .rep r f) (hr' : OpD .rep r' f') : ∀ σ H Q, lift .rep (c1 + (c2 + c3)) (dCh f f' Ta Tb Tc) σ H Q → tChain r r' (lift .sh c1 Ta) (lift .sh c2 Tb) (lift .sh c3 Tc) σ H Q := fun σ H Q ⟨A, B, F, ε, P, n, rs, bx, hn, t, k⟩ => by
  refine ⟨A, B, F, ε, _, n, rs, bx, by omega, t, fun x F1 H1 d g1 q1 t1 => ?_⟩
  refine ⟨A, B, F1, ε, _, n + c1, rs.gr g1, g1.box n bx, by omega, t1, fun y F2 H2 e g2 q2 t2 => ?_⟩
  have rs2 := (rs.gr g1).gr g2
  refine hr B F2 H2 H x y d e _ _ rs2.ex (fun a h => g1.free (g2.free h)) (fun b hb => (rs2.bx b hb).2.2) (q1.gr g2) q2 t2 fun v F3 H3 z g3 q3 ⟨kk, e3, p3⟩ => ?_
  subst e3
  cases q3
  refine ⟨kk, rfl, ?_⟩
  have g13 := (g1.trans g2).trans g3
  cases kk with
  | true =>
    refine ⟨A, B, F3, ε, _, n + (c1 + c2 + 0), rs.gr g13, g13.box n bx, by omega, p3, fun w F4 H4 u g4 q4 t4 => ?_⟩
    have rs4 := (rs.gr g13).gr g4
    refine hr' B F4 H4 H y w e u P Q rs4.ex (fun a h => g13.free (g4.free h)) (fun b hb => (rs4.bx b hb).2.2) ((q2.gr g3).gr g4) q4 t4 fun v F5 H5 z g5 q5 p5 => ?_
    exact k v F5 H5 z (((g13.trans g4).trans g5).mono (by omega)) q5 p5
  | false => exact k _ F3 H3 _ (g13.mono (by omega)) Rep.bl p3
theorem pd_chain {op op' : CmpOp} {r r' : R2} {f f' : Dat → Dat → (Dat → Prop) → Prop} {cx : Expr} (ho : OpR X (compareOp op) r) (ho' : OpR X (compareOp op') r') (hr : OpD .rep r f) (hr' : OpD .rep r' f') (ha : PD .sh X c1 a Ta) (hb : PD .sh X c2 b Tb) (hc : PD .sh X c3 cx Tc)
    (hm : lastMarks [op, op'] [b, cx] = false := by with_unfolding_all rfl) : PD .rep X (c1 + (c2 + c3)) (.Compare a [op, op'] [b, cx] pos) (dCh f f' Ta Tb Tc) := pe_weak (pe_chain ho ho' ha hb hc hm) (ch_run hr hr')
theorem ptd_chain {op op' : CmpOp} {r r' : R2} {f f' : Dat → Dat → (Dat → Prop) → Prop} {cx : Expr} (ho : OpR X (compareOp op) r) (ho' : OpR X (compareOp op') r') (hr : OpD .rep r f) (hr' : OpD .rep r' f') (ha : PD .sh X c1 a Ta) (hb : PD .sh X c2 b Tb) (hc : PD .sh X c3 cx Tc)
    (hm : lastMarks [op, op'] [b, cx] = false := by with_unfolding_all rfl) : PTD X (c1 + (c2 + c3)) (.Compare a [op, op'] [b, cx] pos) (tV (dCh f f' Ta Tb Tc)) := pt_weak (pt_chain ho ho' ha hb hc hm) fun σ H Q h => by
  obtain ⟨A, B, F, ε, P, n, rs, bx, hn, t, k⟩ := h
  exact ch_run hr hr' σ H _ ⟨A, B, F, ε, _, n, rs, bx, hn, t, fun v F' H' d g q ⟨b, e, p⟩ => by
    subst e
    cases q
    exact ⟨b, rfl, k b F' H' g p⟩⟩

/-! ### displays -/
def aStar (T : TD) (U : TAD) : TAD := fun ε P => T ε fun d => ∃ xs, (d = .lst xs ∨ d = .tup xs) ∧ U ε fun ds => P (xs ++ ds)
theorem pad_star {es : List Expr} {U : TAD} {p : Pos} (h : PD .sh X c1 e T) (h2 : PAD X c2 es U) (hs : starEach (.Starred e p :: es) X.env = (true, eval e X.env) :: starEach es X.env := by rfl) : PAD X (c1 + c2) (.Starred e p :: es) (aStar T U) :=
  pa_weak (StX.pa_star h h2 hs) fun σ H Q ⟨A, B, F, ε, P, n, r, bx, hn, t, k⟩ =>
    ⟨A, B, F, ε, _, n, r, bx, by omega, t, fun v F1 H1 d g1 q1 ⟨xs, e1, t1⟩ => by
      have fin : ∀ {vs}, Reps B F1 vs xs → liftA c2 U σ H1 fun ys H2 => Q (vs ++ ys) H2 := fun {vs} rv =>
        ⟨A, B, F1, ε, _, n + c1, r.gr g1, g1.box n bx, by omega, t1, fun ys F2 H2 ds g2 q2 p => k (vs ++ ys) F2 H2 (xs ++ ds) (g1.trans g2) ((rv.mono g2.ex).append q2) p⟩
      rcases e1 with rfl | rfl
      · obtain ⟨p, vs, rfl, h3, h4⟩ := sh_lst g1.sub q1
        exact ⟨p, vs, rfl, .inr (SqL.of h3), fin h4⟩
      · obtain ⟨p, vs, rfl, h3, h4⟩ := sh_tup g1.sub q1
        exact ⟨p, vs, rfl, .inl h3.sq, fin h4⟩⟩
def dTup (U : TAD) : TD := fun ε P => U ε fun ds => ds.length ≤ 100000 ∧ P (.tup ds)
def dLst (U : TAD) : TD := fun ε P => U ε fun ds => ds.length ≤ 100000 ∧ P (.lst ds)
theorem pd_tup {es : List Expr} {U : TAD} {x1 : Nat} (h : PAD X c es U) : PD .rep X c (.Tuple es x1 pos) (dTup U) := pe_weak (pe_tupF h) fun σ H Q ⟨A, B, F, ε, P, n, r, bx, hn, t, k⟩ =>
  ⟨A, B, F, ε, _, n, r, bx, hn, t, fun vs F1 H1 ds g1 q1 ⟨hl, p⟩ => ⟨by rw [q1.length]; exact sz5 hl, opd_tup (Hb := H) g1.sub q1 p fun v F2 H2 z g2 q2 p2 => k v F2 H2 z (g1.trans g2) q2 p2⟩⟩
theorem pd_lst {es : List Expr} {U : TAD} (h : PAD X c es U) : PD .fr X c (.List es pos) (dLst U) := pe_weak (pe_lst h) fun σ H Q ⟨A, B, F, ε, P, n, r, bx, hn, t, k⟩ =>
  ⟨A, B, F, ε, _, n, r, bx, hn, t, fun vs F1 H1 ds g1 q1 ⟨hl, p⟩ => ⟨by rw [q1.length]; exact sz5 hl, opd_own (Hb := H) g1.sub (fun a h => g1.free h) (fun b hb => ((r.gr g1).bx b hb).2.2) q1 p fun v F2 H2 z g2 q2 p2 => k v F2 H2 z (g1.trans g2) q2 p2⟩⟩

/-! ### slices -/
abbrev TOD := Ev → (Option Int → Prop) → Prop
def liftO (c : Nat) (T : TOD) : TO := fun σ H Q => ∃ (A : Addr → Prop) (B : BB) (F : Hp) (ε : Ev) (P : Option Int → Prop) (n : Nat),
  Rs A B F H σ ε ∧ BoxAt B H n ∧ n + c ≤ CAP ∧ T ε P ∧ ∀ o F' H', Gr NoA B c F H F' H' → P o → Q o H'
def POD (X : Cx) (c : Nat) (e : Option Expr) (T : TOD) : Prop := PO X e (liftO c T)
theorem po_weak {e : Option Expr} {t t' : TO} (h : PO X e t) (w : ∀ σ H Q, t' σ H Q → t σ H Q) : PO X e t' := ⟨fun pins s σ H Q I q => h.run pins s σ H Q I (w σ H Q q)⟩
def oNone : TOD := fun _ P => P none
def oSome (T : TD) : TOD := fun ε P => T ε fun d => ∃ i, d = .int i ∧ P (some i)
theorem pod_none : POD X 0 none oNone := po_weak po_none fun σ H Q ⟨A, B, F, ε, P, n, r, bx, hn, t, k⟩ => k none F H (Gr.refl r.ex) t
theorem pod_some (h : PD .rep X c e T) : POD X c (some e) (oSome T) := po_weak (po_some h) fun σ H Q ⟨A, B, F, ε, P, n, r, bx, hn, t, k⟩ =>
  ⟨A, B, F, ε, _, n, r, bx, hn, t, fun v F' H' d g q ⟨i, e1, p⟩ => by
    subst e1
    cases q
    exact ⟨i, rfl, k (some i) F' H' g p⟩⟩
def cut {α : Type} (xs : List α) (lo hi : Option Int) : List α := (xs.drop (HT.sIx xs.length 0 lo)).take (HT.sIx xs.length xs.length hi - HT.sIx xs.length 0 lo)
def fSl : Dat → Option Int → Option Int → (Dat → Prop) → Prop
  | .lst xs, lo, hi, P => P (.lst (cut xs lo hi))
  | .tup xs, lo, hi, P => P (.tup (cut xs lo hi))
  | _, _, _, _ => False
def dSl (T : TD) (U V : TOD) : TD := fun ε P => T ε fun d => U ε fun lo => V ε fun hi => fSl d lo hi P
theorem cut_reps {B : BB} {F : Hp} {vs : List V} {ds : List Dat} (r : Reps B F vs ds) (lo hi : Option Int) : Reps B F (cutV vs lo hi) (cut ds lo hi) := by
  unfold cutV cut
  rw [r.length]
  exact (r.drop _).take _
theorem cut_all {α : Type} {xs : List α} {lo hi : Option Int} (h1 : HT.sIx xs.length 0 lo = 0) (h2 : HT.sIx xs.length xs.length hi = xs.length) : cut xs lo hi = xs := by
  unfold cut
  rw [h1, h2]
  simp
def rSlZ (K : PySem.W.Frag) : V → Option Int → Option Int → Hp → VK → Prop := fun x lo hi H Q => rSlL K x lo hi H Q ∨ rSlF K x lo hi H Q
theorem pd_slice {lo hi : Option Expr} {U V : TOD} {p2 : Pos} (h : PD .sh X c1 e T) (hl : POD X c2 lo U) (hh : POD X c3 hi V) : PD .rep X (c1 + (c2 + c3)) (.Subscript e (.Slice lo hi none p2) pos) (dSl T U V) :=
  pe_weak (pe_slice (SlR.or sl_list sl_tupF) h hl hh) fun σ H Q ⟨A, B, F, ε, P, n, r, bx, hn, t, k⟩ => by
    refine ⟨A, B, F, ε, _, n, r, bx, by omega, t, fun v F1 H1 d g1 q1 t1 => ?_⟩
    refine ⟨A, B, F1, ε, _, n + c1, r.gr g1, g1.box n bx, by omega, t1, fun lo F2 H2 g2 t2 => ?_⟩
    refine ⟨A, B, F2, ε, _, n + (c1 + c2), r.gr (g1.trans g2), (g1.trans g2).box n bx, by omega, t2, fun hi F3 H3 g3 t3 => ?_⟩
    have g := (g1.trans g2).trans g3
    have q3 := (q1.gr g2).gr g3
    cases d with
    | lst xs =>
      obtain ⟨p, vs, rfl, h1, h2⟩ := sh_lst g.sub q3
      refine .inl ⟨p, vs, rfl, SqL.of h1, opd_lst (Hb := H) g.sub (cut_reps h2 lo hi) t3 fun v F4 H4 z g4 q4 p4 => k v F4 H4 z ((g.trans g4).mono (by omega)) q4 p4⟩
    | tup xs =>
      obtain ⟨p, vs, rfl, h1, h2⟩ := sh_tup g.sub q3
      refine .inr ⟨p, vs, rfl, h1.sq, fun ⟨e1, e2⟩ => ?_, fun _ => opd_tup (Hb := H) g.sub (cut_reps h2 lo hi) t3 fun v F4 H4 z g4 q4 p4 => k v F4 H4 z ((g.trans g4).mono (by omega)) q4 p4⟩
      have t4 : P (.tup (cut xs lo hi)) := t3
      rw [h2.length] at e1 e2
      rw [cut_all e1 e2] at t4
      refine k _ F3 H3 (.tup xs) (g.mono (by omega)) ?_ t4
      rcases q3 with q3 | ⟨p', hv, w⟩
      · exact q3
      · obtain ⟨o, _, c⟩ := w.con; cases o <;> exact c.elim
    | _ => exact t3.elim

/-! ### attributes -/
theorem lookF {B : BB} {F : Hp} {f : Str} : ∀ {fs : List (Str × V)} {xs : List (Str × Dat)} {d : Dat}, fs.map (·.1) = xs.map (·.1) → Reps B F (fs.map (·.2)) (xs.map (·.2)) → xs.lookup f = some d → ∃ v, fs.lookup f = some v ∧ Rep B F v d
  | [], [], _, _, _, h => by simp at h
  | [], _ :: _, _, h, _, _ => by simp at h
  | _ :: _, [], _, h, _, _ => by simp at h
  | (k1, v) :: fs, (k2, d0) :: xs, d, h, r, hl => by
    simp only [List.map_cons, List.cons.injEq] at h
    obtain ⟨rfl, h⟩ := h
    simp only [List.map_cons] at r
    cases r with
    | cons r1 r2 =>
      rw [List.lookup_cons] at hl ⊢
      cases e : (f == k1) with
      | true =>
        rw [e] at hl
        cases hl
        exact ⟨v, rfl, r1⟩
      | false =>
        rw [e] at hl
        exact lookF h r2 hl
theorem lookN {f : Str} : ∀ {fs : List (Str × V)} {xs : List (Str × Dat)}, fs.map (·.1) = xs.map (·.1) → xs.lookup f = none → fs.lookup f = none
  | [], [], _, _ => rfl
  | [], _ :: _, h, _ => by simp at h
  | _ :: _, [], h, _ => by simp at h
  | (k1, v) :: fs, (k2, d0) :: xs, h, hl => by
    simp only [List.map_cons, List.cons.injEq] at h
    obtain ⟨rfl, h⟩ := h
    rw [List.lookup_cons] at hl ⊢
    cases e : (f == k1) with
    | true => rw [e] at hl; cases hl
    | false =>
      rw [e] at hl
      exact lookN h hl
def dFld (C : Addr) (T : TD) (f : Str) : TD := fun ε P => T ε fun d => ∃ xs z, d = .obj C xs ∧ xs.lookup f = some z ∧ P z
theorem pd_fld {C : Addr} {f : Str} (cl : Cls X.K C) (na : NoAttr X.K C f) (h : PD .rep X c e T) (hb : attributeBase e f X.env (eval e X.env) = eval e X.env := by rfl) : PD .rep X c (.Attribute e f pos) (dFld C T f) :=
  pe_weak (pe_fld h hb) fun σ H Q ⟨A, B, F, ε, P, n, r, bx, hn, t, k⟩ => ⟨A, B, F, ε, _, n, r, bx, hn, t, fun v F' H' d g q ⟨xs, z, e1, h1, p⟩ => by
    subst e1
    cases q with
    | @obj q C dx fs xs h2 h3 h4 =>
      obtain ⟨w, h5, h6⟩ := lookF h3 h4 h1
      exact ⟨q, C, dx, fs, w, rfl, g.sub _ _ h2, cl, na, h5, k w F' H' z g h6 p⟩⟩
end

/-! ### a def's promise by data -/
def Bx (B : BB) (F H : Hp) : Prop := ∀ b, B.has b → F b = none ∧ ∃ o, H b = some o
def spF (c : Nat) (S : List Dat → (Dat → Prop) → Prop) : Sp := fun vs H Q _ => ∃ (B : BB) (F : Hp) (ds : List Dat) (P : Dat → Prop) (n : Nat),
  Ex F H ∧ Bx B F H ∧ BoxAt B H n ∧ n + c ≤ CAP ∧ Reps B F vs ds ∧ S ds P ∧ ∀ v F' H' d, Gr NoA B c F H F' H' → Rep B F' v d → P d → Q v H'
theorem Rs.bx2 {A : Addr → Prop} {B : BB} {F H : Hp} {σ : L2.St} {ε : Ev} (r : Rs A B F H σ ε) : Bx B F H := fun b hb => ⟨(r.bx b hb).1, (r.bx b hb).2.2⟩
section
variable {X : Cx} {k : Nat} {f C : Addr} {fd : FuncData} {ps ks : List Str} {x mth : Str} {p pos apos : Pos} {e o : Expr} {es : List Expr} {kws : List Keyword} {c ca cb co : Nat} {S : List Dat → (Dat → Prop) → Prop} {U W : TAD} {T : TD}
def dCall (S : List Dat → (Dat → Prop) → Prop) (U : TAD) : TD := fun ε P => U ε fun ds => S ds P
theorem call_run : ∀ σ H Q, lift .rep (ca + c) (dCall S U) σ H Q → tCall (spF c S) [] E0 (liftA ca U) σ H Q := fun σ H Q ⟨A, B, F, ε, P, n, r, bx, hn, t, k⟩ =>
  ⟨A, B, F, ε, _, n, r, bx, by omega, t, fun vs F1 H1 ds g1 q1 t1 => by
    simp only [List.append_nil]
    exact ⟨B, F1, ds, P, n + ca, g1.sub, (r.gr g1).bx2, g1.box n bx, by omega, q1, t1, fun v F2 H2 d g2 q2 p => k v F2 H2 d (g1.trans g2) q2 p⟩⟩
theorem pd_call (F : FnOk X.prog X.w X.K X.mg X.base CX0 k f fd ps (spF c S)) (hr : Room k X.A) (hg : Gl X x) (hm : X.mg x = some (.ref f)) (hk : PySem.W.keepIn X.K (.ref f) = true) (hb : Binds X.K fd ps []) (ha : PAD X ca (e :: es) U)
    (hdb : (x == ("__debug__" : Str)) = false := by decide) (he : starEach (e :: es) X.env = (false, eval e X.env) :: starEach es X.env := by rfl) (hpl : (backTo pos (starEach es X.env)).any (·.1) = false := by rfl) :
    PD .rep X (ca + c) (.Call (.Name x p) (e :: es) [] pos) (dCall S U) := pe_weak (pe_call F hr hg hm hk hb .nil pass0 ha hdb he hpl) call_run
theorem pd_call0 (F : FnOk X.prog X.w X.K X.mg X.base CX0 k f fd ps (spF c S)) (hr : Room k X.A) (hg : Gl X x) (hm : X.mg x = some (.ref f)) (hk : PySem.W.keepIn X.K (.ref f) = true) (hb : Binds X.K fd ps [])
    (hdb : (x == ("__debug__" : Str)) = false := by decide) : PD .rep X c (.Call (.Name x p) [] [] pos) (dCall S aNil) := pe_weak (pe_call0 F hr hg hm hk hb .nil pass0 hdb) fun σ H Q ⟨A, B, F, ε, P, n, r, bx, hn, t, k⟩ =>
  ⟨B, F, [], P, n, r.ex, r.bx2, bx, hn, .nil, t, fun v F2 H2 d g2 q2 p => k v F2 H2 d g2 q2 p⟩
/-! keywords: the values of the keywords in the parameters' order -/
def gK {α : Type} (perm : List Nat) (us ws : List α) : List α := us ++ perm.filterMap fun i => ws[i]?
theorem gK_rel {vs zs : List V} {us ws : List Value} (perm : List Nat) (h : Vals vs us) (h2 : Vals zs ws) : Vals (gK perm vs zs) (gK perm us ws) := by
  refine h.append ?_
  induction perm with
  | nil => exact .nil
  | cons i is ih =>
    cases e : zs[i]? with
    | none =>
      rw [List.filterMap_cons_none e, List.filterMap_cons_none (h2.none_of e)]
      exact ih
    | some v =>
      obtain ⟨u, hu, r⟩ := h2.get e
      rw [List.filterMap_cons_some e, List.filterMap_cons_some hu]
      exact .cons r ih
theorem gK_reps {B : BB} {F : Hp} {vs zs : List V} {us ws : List Dat} (perm : List Nat) (h : Reps B F vs us) (h2 : Reps B F zs ws) : Reps B F (gK perm vs zs) (gK perm us ws) := by
  refine h.append ?_
  induction perm with
  | nil => exact .nil
  | cons i is ih =>
    cases e : zs[i]? with
    | none =>
      have : ws[i]? = none := by
        have h1 : zs.length ≤ i := List.getElem?_eq_none_iff.mp e
        rw [h2.length] at h1
        exact List.getElem?_eq_none_iff.mpr h1
      rw [List.filterMap_cons_none e, List.filterMap_cons_none this]
      exact ih
    | some v =>
      obtain ⟨u, hu, r⟩ := h2.getV e
      rw [List.filterMap_cons_some e, List.filterMap_cons_some hu]
      exact .cons r ih
theorem kb_of {K : PySem.W.Frag} {nm qual : Str} {params : Arguments} {body : List Stmt} {scope : Scope} {kw0 : List (Str × L2.V)} (F : FunD K nm qual params body scope [] kw0 f fd) (n : Nat) (perm : List Nat)
    (h : ∀ (kV doc pm : Value) (an : Option Addr) (cdv ct : Value) (us ws : List Value), us.length = n → ws.length = ks.length → bindArgs (PySem.W.fnOf nm qual params body scope .none kV doc pm an cdv ct) ⟨us, ks.zip ws⟩ = pure (ps.zip (gK perm us ws))) :
    KBn K fd ps n ks (gK perm) (gK perm) := by
  obtain ⟨oc, od, dV, kV, doc, pm, an, cdv, ct, osl, rfl, lk, hcd, hD, hK⟩ := F.ex
  rcases hD with ⟨_, rfl⟩ | ⟨e, _⟩
  · exact ⟨fun s us ws _ l1 l2 => .of_eq (h kV doc pm an cdv ct us ws l1 l2), fun r1 r2 => gK_rel perm r1 r2⟩
  · exact absurd rfl e
theorem run_kn {X : Cx} {CX : CXT} {sp : Sp} {E : XK} {g : List Value → List Value → List Value} {gV : List L2.V → List L2.V → List L2.V} {nn : Nat} {pins : List (Addr × Obj)} {σ : L2.St} {H : Hp} {s : Shared} {Q : VK} {us ws : List Value} {vs zs : List L2.V} (F : FnOk X.prog X.w X.K X.mg X.base CX k f fd ps sp) (hr : Room k X.A) (hb : KBn X.K fd ps nn ks g gV) (hx : Passes CX X E)
    (I : L2.Inv X pins σ H s) (r : Vals vs us) (rz : Vals zs ws) (l1 : vs.length = nn) (l2 : zs.length = ks.length) (h : sp (gV vs zs) H Q E) : wpAny (model X.prog X.w) X.A (call (.ref f) us (ks.zip ws)) (EP X pins σ Q) X.xe s := by
  have r2 := hb.rel r rz
  refine wpAny_call (codeAny_mono (F.run X.A X.stack s H ⟨us, ks.zip ws⟩ (g us ws) (gV vs zs) Q E hr I.env0 (hb.to s us ws I.kIn (r.length.symm.trans l1) (rz.length.symm.trans l2)) r2 h) fun r s' hq => ?_)
  cases r with
  | error e => exact hx pins σ H s e s' I hq
  | ok fl =>
    cases fl with
    | ret u => exact I.after hq
    | next => exact False.elim hq
    | brk => exact False.elim hq
    | cont => exact False.elim hq
def PKD (X : Cx) (c : Nat) (kws : List Keyword) (T : TAD) : Prop := PK X kws (liftA c T)
theorem pk_weak {t t' : TA} (h : PK X kws t) (w : ∀ σ H Q, t' σ H Q → t σ H Q) : PK X kws t' := ⟨fun pos pins s σ H Q I q => h.run pos pins s σ H Q I (w σ H Q q)⟩
theorem pkd_nil : PKD X 0 [] aNil := pk_weak pk_nil fun σ H Q ⟨A, B, F, ε, P, n, r, bx, hn, t, k⟩ => k [] F H [] (Gr.refl r.ex) .nil t
theorem pkd_cons {nm : Option Str} {kpos : Pos} (h : PD .rep X ca e T) (h2 : PKD X cb kws U) : PKD X (ca + cb) (⟨nm, e, kpos⟩ :: kws) (aCons T U) := pk_weak (pk_cons h h2) fun σ H Q ⟨A, B, F, ε, P, n, r, bx, hn, t, k⟩ =>
  ⟨A, B, F, ε, _, n, r, bx, by omega, t, fun v F1 H1 d g1 q1 t1 => ⟨A, B, F1, ε, _, n + ca, r.gr g1, g1.box n bx, by omega, t1, fun vs F2 H2 ds g2 q2 p => k (v :: vs) F2 H2 (d :: ds) (g1.trans g2) (.cons (q1.mono g2.ex) q2) p⟩⟩
def dCallK (S : List Dat → (Dat → Prop) → Prop) (n m : Nat) (perm : List Nat) (U W : TAD) : TD := fun ε P => U ε fun ds => W ε fun es => ds.length = n ∧ es.length = m ∧ S (gK perm ds es) P
/-- f(k = v, ..) -/
theorem pd_callK0 {perm : List Nat} (F : FnOk X.prog X.w X.K X.mg X.base CX0 k f fd ps (spF c S)) (hr : Room k X.A) (hg : Gl X x) (hm : X.mg x = some (.ref f)) (hk : PySem.W.keepIn X.K (.ref f) = true) (hb : KBn X.K fd ps 0 ks (gK perm) (gK perm)) (hkw : PKD X cb kws W)
    (hall : (backToKw pos (keywordEach kws X.env)).all (·.1.isSome) = true := by rfl) (hks : (backToKw pos (keywordEach kws X.env)).filterMap (·.1) = ks := by rfl) (hdb : (x == ("__debug__" : Str)) = false := by decide)
    (hpl : ((backTo pos (starEach [] X.env)).any (·.1) || (backToKw pos (keywordEach kws X.env)).any (·.1.isNone)) = false := by rfl) : PD .rep X (cb + c) (.Call (.Name x p) [] kws pos) (dCallK S 0 ks.length perm aNil W) := by
  refine ⟨fun pins s σ H Q I ⟨A, B, F1, ε, P, n, r, bx, hn, t, k⟩ => ?_⟩
  refine wpAny_Call_Name_kw (ld_glob I hg hm ?_ hdb)
  refine PySem.W.callWith_KW0 (h₀ := X.base) I.ok.mod.kin hk hall ?_ hpl
  refine thn (hkw.run pos pins s σ H (fun vs H2 => ∃ F2 es, Gr NoA B cb F1 H F2 H2 ∧ Reps B F2 vs es ∧ es.length = ks.length ∧ S (gK perm [] es) P) I ⟨A, B, F1, ε, _, n, r, bx, by omega, t, fun vs F2 H2 es g q ⟨l1, l2, p⟩ => ⟨F2, es, g, q, l2, p⟩⟩) fun ws s2 ⟨zs, H2, I2, rz, F2, es, g, q, l2, p⟩ => ⟨I2.kIn, ?_⟩
  rw [hks]
  exact run_kn (us := []) (vs := []) F hr hb pass0 I2 .nil rz rfl (q.length.trans l2) ⟨B, F2, _, P, n + cb, g.sub, (r.gr g).bx2, g.box n bx, by omega, gK_reps perm .nil q, p, fun v F3 H3 d g2 q2 p2 => k v F3 H3 d (g.trans g2) q2 p2⟩
/-- f(e, .., k = v, ..) -/
theorem pd_callK {perm : List Nat} {nn : Nat} (F : FnOk X.prog X.w X.K X.mg X.base CX0 k f fd ps (spF c S)) (hr : Room k X.A) (hg : Gl X x) (hm : X.mg x = some (.ref f)) (hk : PySem.W.keepIn X.K (.ref f) = true) (hb : KBn X.K fd ps nn ks (gK perm) (gK perm)) (ha : PAD X ca (e :: es) U) (hkw : PKD X cb kws W)
    (hall : (backToKw pos (keywordEach kws X.env)).all (·.1.isSome) = true := by rfl) (hks : (backToKw pos (keywordEach kws X.env)).filterMap (·.1) = ks := by rfl) (hdb : (x == ("__debug__" : Str)) = false := by decide)
    (he : starEach (e :: es) X.env = (false, eval e X.env) :: starEach es X.env := by rfl) (hpl : ((backTo pos (starEach (e :: es) X.env)).any (·.1) || (backToKw pos (keywordEach kws X.env)).any (·.1.isNone)) = false := by rfl) :
    PD .rep X (ca + (cb + c)) (.Call (.Name x p) (e :: es) kws pos) (dCallK S nn ks.length perm U W) := by
  refine ⟨fun pins s σ H Q I ⟨A, B, F1, ε, P, n, r, bx, hn, t, k⟩ => ?_⟩
  refine wpAny_Call_Name_kw (ld_glob I hg hm ?_ hdb)
  refine PySem.W.callWith_KW (h₀ := X.base) I.ok.mod.kin hk hall (thn (ha.run pos pins s σ H (fun vs H2 => ∃ F2 ds, Gr NoA B ca F1 H F2 H2 ∧ Reps B F2 vs ds ∧ W ε fun es => ds.length = nn ∧ es.length = ks.length ∧ S (gK perm ds es) P) I ⟨A, B, F1, ε, _, n, r, bx, by omega, t, fun vs F2 H2 ds g q t2 => ⟨F2, ds, g, q, t2⟩⟩) fun us s1 ⟨vs, H1, I1, rv, F2, ds, g, q, t2⟩ => ?_) hpl he
  refine thn (hkw.run pos pins s1 σ H1 (fun zs H3 => ∃ F3 es, Gr NoA B cb F2 H1 F3 H3 ∧ Reps B F3 zs es ∧ ds.length = nn ∧ es.length = ks.length ∧ S (gK perm ds es) P) I1 ⟨A, B, F2, ε, _, n + ca, r.gr g, g.box n bx, by omega, t2, fun zs F3 H3 es g2 q2 ⟨l1, l2, p⟩ => ⟨F3, es, g2, q2, l1, l2, p⟩⟩) fun ws s2 ⟨zs, H2, I2, rz, F3, es, g2, q2, l1, l2, p⟩ => ⟨I2.kIn, ?_⟩
  rw [hks]
  have gg := g.trans g2
  exact run_kn (us := us) (vs := vs) F hr hb pass0 I2 rv rz (q.length.trans l1) (q2.length.trans l2) ⟨B, F3, _, P, n + (ca + cb), gg.sub, (r.gr gg).bx2, gg.box n bx, by omega, gK_reps perm (q.mono g2.ex) q2, p, fun v F4 H4 d g3 q3 p3 => k v F4 H4 d ((gg.trans g3).mono (by omega)) q3 p3⟩
/-- o.m(e, ..) -/
def dMeth (C : Addr) (mth : Str) (S : List Dat → (Dat → Prop) → Prop) (T : TD) (U : TAD) : TD := fun ε P => T ε fun d => ∃ xs, d = .obj C xs ∧ xs.lookup mth = none ∧ U ε fun ds => S (d :: ds) P
theorem meth_run : ∀ σ H Q, lift .rep (co + (ca + c)) (dMeth C mth S T U) σ H Q → tMeth C mth (spF c S) [] E0 (lift .rep co T) (liftA ca U) σ H Q := fun σ H Q ⟨A, B, F, ε, P, n, r, bx, hn, t, k⟩ =>
  ⟨A, B, F, ε, _, n, r, bx, by omega, t, fun v F1 H1 d g1 q1 ⟨xs, e1, h1, t1⟩ => by
    subst e1
    have q0 := q1
    cases q1 with
    | @obj q C dx fs xs h2 h3 h4 =>
      refine ⟨q, dx, fs, rfl, g1.sub _ _ h2, lookN h3 h1, ?_⟩
      refine ⟨A, B, F1, ε, _, n + co, r.gr g1, g1.box n bx, by omega, t1, fun vs F2 H2 ds g2 q2 t2 => ?_⟩
      simp only [List.append_nil]
      have gg := g1.trans g2
      exact ⟨B, F2, _ :: ds, P, n + (co + ca), gg.sub, (r.gr gg).bx2, gg.box n bx, by omega, .cons (Rep.mono g2.ex q0) q2, t2, fun v F3 H3 d g3 q3 p => k v F3 H3 d ((gg.trans g3).mono (by omega)) q3 p⟩⟩
theorem pd_meth {pl : Sem Bool} (cl : Cls X.K C) (hm : Meth X.K C mth f) (F : FnOk X.prog X.w X.K X.mg X.base CX0 k f fd ps (spF c S)) (hr : Room k X.A) (hb : Binds X.K fd ps []) (ho : PD .rep X co o T) (ha : PAD X ca (e :: es) U)
    (hst : starEach (e :: es) X.env = (false, eval e X.env) :: starEach es X.env := by rfl) (hpl : (backTo pos (starEach es X.env)).any (·.1) = false := by rfl)
    (ht : eval (.Call (.Attribute o mth apos) (e :: es) [] pos) X.env = (do
      let ov ← eval o X.env
      standAt apos.atName
      let (f, first) ← holding [ov] (getMethod ov mth pl)
      callWith pos f first (backTo pos (starEach (e :: es) X.env)) (backToKw pos (keywordEach [] X.env))) := by rfl) :
    PD .rep X (co + (ca + c)) (.Call (.Attribute o mth apos) (e :: es) [] pos) (dMeth C mth S T U) := pe_weak (pe_meth ho cl hm F hr hb .nil pass0 ha hst hpl ht) meth_run
end

/-! ### objects: __init__'s promise, C(..) -/
def spI (c : Nat) (C : Addr) (S : List Dat → (List (Str × Dat) → Prop) → Prop) : Sp := fun vs H Q _ => ∃ (B : BB) (F : Hp) (p dx : Addr) (vs' : List V) (ds : List Dat) (P : List (Str × Dat) → Prop) (n : Nat),
  vs = .ref p :: vs' ∧ H p = some (.ins C dx []) ∧ F p = none ∧ ¬ B.has p ∧ Ex F H ∧ Bx B F H ∧ BoxAt B H n ∧ n + c ≤ CAP ∧ Reps B F vs' ds ∧ S ds P ∧
  ∀ F' H' dx' fs fds, Gr (fun a => a = p) B c F H F' H' → F' p = none → H' p = some (.ins C dx' fs) → fs.map (·.1) = fds.map (·.1) → Reps B F' (fs.map (·.2)) (fds.map (·.2)) → P fds → Q .non H'
section
variable {X : Cx} {k : Nat} {f C : Addr} {fd : FuncData} {ps ks : List Str} {x : Str} {p pos : Pos} {e : Expr} {es : List Expr} {kws : List Keyword} {c ca cb : Nat} {S : List Dat → (List (Str × Dat) → Prop) → Prop} {U W : TAD}
def dMake (C : Addr) (S : List Dat → (List (Str × Dat) → Prop) → Prop) (U : TAD) : TD := fun ε P => U ε fun ds => S ds fun fds => P (.obj C fds)
theorem make_end {A : Addr → Prop} {B : BB} {F1 H1 : Hp} {σ : L2.St} {ε : Ev} {ds : List Dat} {vs : List L2.V} {P : Dat → Prop} {Q : VK} {n : Nat} (r : Rs A B F1 H1 σ ε) (bx : BoxAt B H1 n) (hn : n + c ≤ CAP) (q : Reps B F1 vs ds) (t : S ds fun fds => P (.obj C fds))
    (k : ∀ v F' H' d, Gr NoA B c F1 H1 F' H' → Rep B F' v d → P d → Q v H') : ∀ x dx, H1 x = none → H1 dx = none → dx ≠ x → spI c C S (.ref x :: vs) (upd (upd H1 dx (.own x)) x (.ins C dx [])) (fun v H2 => v = .non ∧ Q (.ref x) H2) E0 := fun x dx hx hdx ne => by
  have g0 : Gr NoA B 0 F1 H1 F1 (upd H1 dx (.own x)) := Gr.alloc0 r.ex hdx
  have hx2 : upd H1 dx (.own x) x = none := by rw [upd_ne ne.symm]; exact hx
  have g1 : Gr NoA B 0 F1 (upd H1 dx (.own x)) F1 (upd (upd H1 dx (.own x)) x (.ins C dx [])) := Gr.alloc0 g0.sub hx2
  have g := g0.trans g1
  have nb : ¬ B.has x := fun e => by
    obtain ⟨_, _, o, ho⟩ := r.bx x e
    rw [hx] at ho
    cases ho
  refine ⟨B, F1, x, dx, vs, ds, _, n, rfl, upd_same, r.ex.back hx, nb, g.sub, (r.gr g).bx2, g.box n bx, hn, q, t, fun F' H' dx' fs fds gg hF hH hk hv p => ⟨rfl, ?_⟩⟩
  refine k (.ref x) (upd F' x (.ins C dx' fs)) H' (.obj C fds) ⟨gg.ex.trans (Ex.new hF), fun a u z => ?_, fun a u z => ?_, fun a u z nb' _ => ?_, fun a u z => ?_, fun m hb => ?_⟩ (.obj upd_same hk (hv.mono (Ex.new hF))) p
  · by_cases w : a = x
    · subst w; rw [upd_same] at z; rw [← z]; exact hH
    · rw [upd_ne w] at z; exact gg.sub a u z
  · by_cases w : a = x
    · subst w; exact .inr (.inl hx)
    · rw [upd_ne w] at z
      rcases gg.new a u z with y | y | y
      · exact .inl y
      · exact .inr (.inl (g.free y))
      · exact (w y).elim
  · have w : a ≠ x := fun w => by rw [w, hx] at z; cases z
    exact gg.keep a u (g.keep a u z nb' (fun h => h)) nb' w
  · obtain ⟨o1, h1⟩ := g.there a u z
    exact gg.there a o1 h1
  · exact gg.box m (g.box m hb)
theorem pd_make (M : Mk X.K C f) (F : FnOk X.prog X.w X.K X.mg X.base CX0 k f fd ps (spI c C S)) (hr : Room (k + 1) X.A) (hg : Gl X x) (hm : X.mg x = some (.ref C)) (hb : Binds X.K fd ps []) (ha : PAD X ca (e :: es) U)
    (hdb : (x == ("__debug__" : Str)) = false := by decide) (he : starEach (e :: es) X.env = (false, eval e X.env) :: starEach es X.env := by rfl) (hpl : (backTo pos (starEach es X.env)).any (·.1) = false := by rfl) :
    PD .rep X (ca + c) (.Call (.Name x p) (e :: es) [] pos) (dMake C S U) := pe_weak (pe_make M F hr hg hm hb .nil pass0 ha hdb he hpl) fun σ H Q ⟨A, B, F, ε, P, n, r, bx, hn, t, k⟩ =>
  ⟨A, B, F, ε, _, n, r, bx, by omega, t, fun vs F1 H1 ds g1 q1 t1 => by
    simp only [List.append_nil]
    exact make_end (r.gr g1) (g1.box n bx) (by omega) q1 t1 fun v F2 H2 d g2 q2 p => k v F2 H2 d (g1.trans g2) q2 p⟩
def dMakeK (C : Addr) (S : List Dat → (List (Str × Dat) → Prop) → Prop) (n m : Nat) (perm : List Nat) (U W : TAD) : TD := fun ε P => U ε fun ds => W ε fun es => ds.length = n ∧ es.length = m ∧ S (gK perm ds es) fun fds => P (.obj C fds)
theorem gK_cons {α : Type} (perm : List Nat) (v : α) (vs zs : List α) : gK perm (v :: vs) zs = v :: gK perm vs zs := rfl
theorem pd_makeK0 {perm : List Nat} (M : Mk X.K C f) (F : FnOk X.prog X.w X.K X.mg X.base CX0 k f fd ps (spI c C S)) (hr : Room (k + 1) X.A) (hg : Gl X x) (hm : X.mg x = some (.ref C)) (hb : KBn X.K fd ps 1 ks (gK perm) (gK perm)) (hkw : PKD X cb kws W)
    (hall : (backToKw pos (keywordEach kws X.env)).all (·.1.isSome) = true := by rfl) (hks : (backToKw pos (keywordEach kws X.env)).filterMap (·.1) = ks := by rfl) (hdb : (x == ("__debug__" : Str)) = false := by decide)
    (hpl : ((backTo pos (starEach [] X.env)).any (·.1) || (backToKw pos (keywordEach kws X.env)).any (·.1.isNone)) = false := by rfl) : PD .rep X (cb + c) (.Call (.Name x p) [] kws pos) (dMakeK C S 0 ks.length perm aNil W) :=
  pe_weak (pe_makeK0 M F hr hg hm hb pass0 hkw hall hks hdb hpl) fun σ H Q ⟨A, B, F, ε, P, n, r, bx, hn, t, k⟩ =>
    ⟨A, B, F, ε, _, n, r, bx, by omega, t, fun zs F1 H1 es g1 q1 ⟨l1, l2, t1⟩ => ⟨rfl, q1.length.trans l2, fun x dx hx hdx ne => by
      rw [gK_cons]
      exact make_end (r.gr g1) (g1.box n bx) (by omega) (gK_reps perm .nil q1) t1 (fun v F2 H2 d g2 q2 p => k v F2 H2 d (g1.trans g2) q2 p) x dx hx hdx ne⟩⟩
end
end DL
set_option maxRecDepth 100000
set_option maxHeartbeats 2000000
/-! DL6: rules that the hand layer lacks: enumerate of a tuple, tuple.index of flat items, len(set(tuple)), sorted(tuple), tuple * small. -/
namespace DL
open PySem PySem.Spec PyProof.Rows L2
variable [TabC]

/-! ### enumerate(tuple) -/
def IteT (K : PySem.W.Frag) (a : Addr) : It :=
  ⟨fun i H => ∃ (xs : List V) (x : V), SqT K H a xs ∧ xs[i]? = some x, fun i H v H' => ∃ T x, v = .ref T ∧ H T = none ∧ H' = upd H T (.tup [.int (i : Nat), x]) ∧ ∀ xs, SqT K H a xs → xs[i]? = some x, fun i H => ∃ xs : List V, SqT K H a xs ∧ xs.length ≤ i⟩
theorem turn_enumT {P : Program} {w : World} {K : PySem.W.Frag} {elts : List Expr} {kk : Nat} {tpos : Pos} (a e it : Addr) (hne : e ≠ it) :
    Turn P w K (.Tuple elts kk tpos) (IteT K a) [e, it] e (fun i h => (∃ old, IsEnum h e it ((i : Nat) : Int) old) ∧ h.IsTupleIter it a i) where
  mem := by simp
  obj := fun i h st b hb => by
    obtain ⟨⟨old, he⟩, o, ho, hc, hd⟩ := st
    have e' : b = e ∨ b = it := by simpa using hb
    rcases e' with z | z
    · rw [z]; exact ⟨_, he, fun v q => nomatch q⟩
    · rw [z]; exact ⟨o, ho, fun v q => by rw [hd] at q; cases q⟩
  keep := fun i h h' st k => let ⟨⟨old, he⟩, hi⟩ := st; ⟨⟨old, k e (by simp) _ he⟩, hi.at fun o q => k it (by simp) o q⟩
  item := by
    intro X hP hw hK hc i pins s σ H E I hf st hg
    subst hP hw hK
    obtain ⟨⟨old, he⟩, hit⟩ := st
    obtain ⟨xs, x, hq, hx⟩ := hg
    obtain ⟨its, rv, p, hz⟩ := I.tuple hq
    obtain ⟨u, hu, ru⟩ := rv.get hx
    have hel : e < s.heap.objs.size := Heap.lt_size he
    have hil : it < s.heap.objs.size := by obtain ⟨_, q, _⟩ := hit; exact Heap.lt_size q
    have hal : a < s.heap.objs.size := p.lt
    have ha1 : a ≠ e := fun z => by
      obtain ⟨o, h1, h2, _⟩ := p
      rw [z] at h1
      rw [show s.heap.get? e = some _ from he] at h1
      cases h1
      injection h2 with h3
      exact absurd h3 (by decide)
    have ha2 : a ≠ it := fun z => by
      obtain ⟨o, h1, h2, _⟩ := p
      obtain ⟨o2, h3, h4, _⟩ := hit
      rw [z, h3] at h1
      cases h1
      rw [h4] at h2
      injection h2 with h5
      exact absurd h5 (by decide)
    have il : i < its.toArray.size := by
      have := (List.getElem?_eq_some_iff.mp hu).1
      simpa using this
    have D := Draws.tuple (prog := X.prog) (w := X.w) (A := X.A.in1) (I.ok.hd hc) it a ha2 its.toArray
    refine wpAny_pyNext_enum_itemC D he ⟨hit, p⟩ il hne (by simp; exact ⟨hne, ha1.symm⟩) fun y h' tk hy ho hst hT hsz hk => ?_
    have ey : y = u := by
      have : its.toArray[i]? = some u := by simpa using hu
      rw [this] at hy
      exact (Option.some.inj hy).symm
    subst ey
    refine ⟨_, rfl, wpAny_letOwnedTupleGo_enum (s := { s with heap := h', toks := tk + 1 }) ho fun h'' he' sb => ?_⟩
    have hT2 : h''.get? s.heap.objs.size = some { cls := .type "tuple", data := .seq #[.int i tk, y] } := (sb.2 _ (Nat.ne_of_gt hel)).trans hT
    have new : ObjOk X.prog X.w (upd H s.heap.objs.size (.tup [.int (i : Nat), x])) h'' s.heap.objs.size (.tup [.int (i : Nat), x]) :=
      ⟨by show 2 ≤ sizeLine; decide, [.int i tk, y], .cons ⟨_, rfl⟩ (.cons ru .nil), ⟨_, hT2, rfl, _, rfl⟩⟩
    have I1 : L2.Inv X pins σ (upd H s.heap.objs.size (.tup [.int (i : Nat), x])) { s with heap := h'', toks := tk + 1 } :=
      I.turnedNew (ch := [e, it]) (fun b ob hb q => (sb.2 b (fun z => hb (by simp [z]))).trans (hk b ob (fun z => hb (by simp [z])) (fun z => hb (by simp [z])) q)) hf (Nat.le_refl _) new
    refine ⟨.ref s.heap.objs.size, _, I1, rfl, ⟨_, x, rfl, I.hok.fresh (Nat.le_refl _), rfl, fun ys hy => by rw [I.tuple_inj hy hq]; exact hx⟩, ⟨⟨y, ?_⟩, hst.1.at fun o q => (sb.2 it (Ne.symm hne)).trans q⟩, fun b hb => ?_⟩
    · have e1 : ((i + 1 : Nat) : Int) = (i : Int) + 1 := by omega
      rw [e1]; exact he'
    · have hb' : b < s.heap.objs.size := by
        have e' : b = e ∨ b = it := by simpa using hb
        rcases e' with z | z
        · rw [z]; exact hel
        · rw [z]; exact hil
      rw [upd_ne (Nat.ne_of_lt hb')]
      exact (hf b hb).1
  done := by
    intro X hP hw hK hc i pins s σ H E I hf st hg
    subst hP hw hK
    obtain ⟨⟨old, he⟩, hit⟩ := st
    obtain ⟨xs, hq, hx⟩ := hg
    obtain ⟨its, rv, p, hz⟩ := I.tuple hq
    obtain ⟨f0, f1, f2, f3, f4, f5⟩ := hf it (by simp)
    have hl := rv.length
    have hT : s.TypeIs (.ref e) "enumerate" := ⟨_, he, rfl⟩
    unfold pyNext
    refine wpAny_bind (wpAny_attempt (wpAny_callSpecial?_slot (name := Str.ofString "__next__") hT F.slot_enumerate_next
      (wpAny_call_entry F.slot_enumerate_next hT F.entry_enumerate_next ?_ (F.args_enumerate_next_1 _))))
    show wpAny _ _ (field (.ref e) 2 >>= _) _ _ _
    refine wpAny_bind (wpAny_field he rfl (x := .ref it) rfl ?_)
    refine wpAny_bind (wpAny_nextOf_tuple_end (I.ok.hd hc) hit p (by simp; omega) fun h' x he' hx' => ?_)
    obtain ⟨o, ho, hcl⟩ := hx'
    refine wpAny_bind (wpAny_isInstance (T := "StopIteration") (b := true) ⟨o, ho, hcl⟩ isSubtype_stop ?_)
    exact wpAny_pure ⟨rfl, I.turned (t' := s.toks) (fun b o hb q => he' b o hb q) f0 f1 f3 f4 f5⟩
  self := fun A i s Q E st h => let ⟨⟨_, he⟩, _⟩ := st; wpAny_pyIter_enum he h
theorem meets_enumerate_newT (l : Addr) (items : Array Value) :
    Meets (Builtin.«enumerate.__new__» ⟨[.type "enumerate", .ref l], []⟩) (fun _ R s => s.heap.IsTuple l items ∧
      R (.ok (.ret (.ref (s.heap.push { cls := .type "tuple_iterator", data := .fields #[.ref l, .int 0 0] }).objs.size)))
        { s with heap := (s.heap.push { cls := .type "tuple_iterator", data := .fields #[.ref l, .int 0 0] }).push { cls := .type "enumerate", data := .fields #[.none, .bool false, .ref s.heap.objs.size, rawInt 0, .none, .none] } }) :=
  .of_wp fun prog w A R s h => by
    obtain ⟨hp, g, d, tk, os⟩ := s; obtain ⟨hl, h⟩ := h
    have hsub := sub_enumerate
    have hL : Heap.IsTuple (Shared.heap ⟨hp, g, d, tk, os⟩) l items := hl
    wp_walk
    refine wpAny_stack_any fun st => wpAny_pure ?_
    split
    · rename_i c _ _ _ _ _
      cases (c == Value.type "enumerate")
      · wp_walk using wpAny_pyIter_tuple hL
        exact ⟨_, rfl, h⟩
      · wp_walk using wpAny_pyIter_tuple hL
        exact ⟨_, rfl, h⟩
    · wp_walk using wpAny_pyIter_tuple hL
      exact ⟨_, rfl, h⟩
theorem call_enumerate_tuple {prog : Program} {w : World} {A : Around} {E : Value → Shared → Prop} {s : Shared} {l : Addr} {items : Array Value} {Q : Value → Shared → Prop} (hL : s.heap.IsTuple l items)
    (h : ∀ h', IsEnum h' (s.heap.objs.size + 1) s.heap.objs.size 0 .none → h'.IsTupleIter s.heap.objs.size l 0 → h'.objs.size = s.heap.objs.size + 2 →
      (∀ b o, s.heap.get? b = some o → h'.get? b = some o) → Q (.ref (s.heap.objs.size + 1)) { s with heap := h' }) :
    wpAny (model prog w) A (call (.type "enumerate") [.ref l]) Q E s := by
  refine callType_new F.called_enumerate (by decide) (F.typeCall_enumerate_1 _) (F.newCall_enumerate_1 _) (fun obj => F.args_object_init_2 obj _) F.entry_enumerate_new
    (meets_enumerate_newT l items) ⟨hL, ?_⟩
  have hz : (s.heap.push { cls := .type "tuple_iterator", data := .fields #[.ref l, .int 0 0] }).objs.size = s.heap.objs.size + 1 := Heap.size_push ..
  show _ ∧ _
  rw [hz]
  have he : IsEnum ((s.heap.push { cls := .type "tuple_iterator", data := .fields #[.ref l, .int 0 0] }).push
      { cls := .type "enumerate", data := .fields #[.none, .bool false, .ref s.heap.objs.size, rawInt 0, .none, .none] }) (s.heap.objs.size + 1) s.heap.objs.size 0 .none := by
    have := Heap.get?_push_size (s.heap.push { cls := .type "tuple_iterator", data := .fields #[.ref l, .int 0 0] })
      (o := { cls := .type "enumerate", data := .fields #[.none, .bool false, .ref s.heap.objs.size, rawInt 0, .none, .none] }) rfl
    rw [hz] at this; exact this
  refine ⟨⟨_, he, rfl⟩, h _ he ⟨_, Heap.get?_push_of_some _ (Heap.get?_push_size _ rfl), rfl, rfl⟩ (by rw [Heap.size_push, hz]) fun b o x => Heap.get?_push_of_some _ (Heap.get?_push_of_some _ x)⟩
/-- enumerate(list or tuple) -/
def iEnumA (K : PySem.W.Frag) (ta : TA) : TI := fun σ H R => ta σ H fun vs H1 => ∃ a xs, vs = [.ref a] ∧ ((SqL K H1 a xs ∧ R (Ite K a) H1) ∨ (SqT K H1 a xs ∧ R (IteT K a) H1))
theorem pi_enumA {X : Cx} {e : Expr} {ta : TA} {p pos tpos : Pos} {elts : List Expr} {kk : Nat} (hg : Gl X "enumerate") (hm : X.mg "enumerate" = none) (ha : PA X [e] ta) (hs : starEach [e] X.env = [(false, eval e X.env)] := by rfl) :
    PI X (.Tuple elts kk tpos) (.Call (.Name "enumerate" p) [e] [] pos) (iEnumA X.K ta) := by
  refine ⟨fun pins s σ H R I h => ?_⟩
  refine Call_ (ld_blt I hg hm boot_enumerate (PyProof.Rows.callWith_type1 (thn (ha.run pos pins s σ H _ I h) fun us s1 ⟨vs, H1, I1, r1, q1⟩ => ?_) hs rfl))
  obtain ⟨a, xs, ex, q⟩ := q1
  subst ex
  cases r1 with
  | cons r rr =>
    cases rr
    cases r
    have fpk : ∀ b ∈ [s1.heap.objs.size + 1, s1.heap.objs.size], FpOk X pins H1 b := fun b hb => by
      have e' : b = s1.heap.objs.size + 1 ∨ b = s1.heap.objs.size := by simpa using hb
      have hle : s1.heap.objs.size ≤ b := by
        rcases e' with z | z
        · rw [z]; exact Nat.le_add_right _ _
        · rw [z]; exact Nat.le_refl _
      exact I1.fpOk hle (I1.hok.fresh hle)
    rcases q with ⟨hq, q⟩ | ⟨hq, q⟩
    · obtain ⟨its, rv, p', hz⟩ := I1.list hq
      refine call_enumerate_list p'.isList fun h' he hit hsz hk => wpAny_pyIter_enum he ?_
      have I2 : L2.Inv X pins σ H1 { s1 with heap := h' } := I1.kept (t' := s1.toks) hk
      exact ⟨s1.heap.objs.size + 1, [s1.heap.objs.size + 1, s1.heap.objs.size], _, _, H1, rfl, I2, turn_enum a (s1.heap.objs.size + 1) s1.heap.objs.size, ⟨⟨.none, he⟩, hit, Nat.succ_ne_self _⟩, fpk, q⟩
    · obtain ⟨its, rv, p', hz⟩ := I1.tuple hq
      refine call_enumerate_tuple p' fun h' he hit hsz hk => wpAny_pyIter_enum he ?_
      have I2 : L2.Inv X pins σ H1 { s1 with heap := h' } := I1.kept (t' := s1.toks) hk
      exact ⟨s1.heap.objs.size + 1, [s1.heap.objs.size + 1, s1.heap.objs.size], _, _, H1, rfl, I2, turn_enumT a (s1.heap.objs.size + 1) s1.heap.objs.size (Nat.succ_ne_self _), ⟨⟨.none, he⟩, hit⟩, fpk, q⟩
theorem walk_enumT {K : PySem.W.Frag} {a : Addr} {xs : List V} : Walk (IteT K a) xs.length (fun H => SqT K H a xs) (YPair (fun i => some (.int (i : Nat))) (fun i => xs[i]?)) := by
  refine ⟨fun i _ hi q => ⟨xs, xs[i], q, by simp [hi]⟩, fun _ q => ⟨xs, q, Nat.le_refl _⟩, fun i H v H' _ q y => ?_⟩
  obtain ⟨T, x, h1, h2, h3, h4⟩ := y
  exact ⟨T, .int (i : Nat), x, h1, h2, h3, rfl, h4 xs q⟩

/-! ### tuple.index of flat items -/
def rIndexT (K : PySem.W.Frag) : V → List V → Hp → VK → Prop := fun x xs H Q => ∃ (a : Addr) (ys : List V) (y : V) (j : Nat) (z : V), x = V.ref a ∧ xs = [y] ∧ SqT K H a ys ∧ flatV y = true ∧ ys.all flatV = true ∧ ys[j]? = some z ∧ eqV z y = true ∧
  (∀ (m : Nat) (z' : V), m < j → ys[m]? = some z' → eqV z' y = false) ∧ Q (.int (j : Nat)) H
theorem mt_tindex {X : Cx} : MtR X "tuple.index" (rIndexT X.K) := by
  intro pins s σ H x xs v us Q I rx rxs h
  obtain ⟨a, ys, y, j, z, rfl, rfl, hs, fy, fys, hz, hzj, hno, q⟩ := h
  cases rx
  cases rxs with
  | cons ry rt =>
    rename_i uy ut
    cases rt
    obtain ⟨its, rv, ⟨⟨cls, dd, data, sl⟩, ho, hc, n, hd⟩, hlen⟩ := I.tuple hs
    simp only at hc hd
    subst hc hd
    obtain ⟨u, hu, ru⟩ := rv.get hz
    obtain ⟨hjl, hje⟩ := List.getElem?_eq_some_iff.mp hu
    have hvl := rv.length
    have hj : j < its.toArray.size := by simpa using hjl
    refine call_meets PySem.F.slot_tuple_index ⟨_, ho, rfl⟩ PySem.F.entry_tuple_index (PySem.F.args_tuple_index_2 _ _)
      (TI.tuple_indexAt a its.toArray n dd sl uy (eqU y) j hj ?_ ?_) ⟨ho, fun u' hu' => mem_eqAt ry fy rv fys u' (by simpa using hu'), ⟨.int (j : Nat), H, I.tok _, ⟨_, rfl⟩, q⟩⟩
    · have e1 : its.toArray[j] = u := by simpa using hje
      rw [e1, eqU_of ru (flat_at fys hz)]
      exact hzj
    · intro m hm hmj
      have hml : m < its.length := by simpa using hm
      have hmy : m < ys.length := by omega
      obtain ⟨w, hw, rw'⟩ := rv.get (i := m) (x := ys[m]) (by simp [hmy])
      have e1 : its.toArray[m] = w := by
        have := (List.getElem?_eq_some_iff.mp hw).2
        simpa using this
      rw [e1, eqU_of rw' (flat_at fys (List.getElem?_eq_getElem hmy))]
      exact hno m _ hmj (List.getElem?_eq_getElem hmy)

/-! ### len(set(tuple of ints)), all different -/
def tLenSetT (K : PySem.W.Frag) (ta : TE) : TE := fun σ H Q => ta σ H fun x H1 => ∃ (l : Addr) (ns : List Int), x = .ref l ∧ SqT K H1 l (ns.map V.int) ∧ ns.Nodup ∧ ns.length ≤ 4000 ∧ Q (.int (ns.length : Nat)) H1
theorem pe_lenSetT {X : Cx} {a : Expr} {ta : TE} {p p2 q pos : Pos} (hg : Gl X "len") (hm : X.mg "len" = none) (hg2 : Gl X "set") (hm2 : X.mg "set" = none) (ha : PE X a ta) (hc : X.calm = true)
    (na : starEach [a] X.env = (false, eval a X.env) :: starEach [] X.env := by rfl) : PE X (.Call (.Name "len" p) [.Call (.Name "set" p2) [a] [] q] [] pos) (tLenSetT X.K ta) := by
  refine ⟨fun pins s σ H Q I h => ?_⟩
  refine Call_ (ld_blt I hg hm boot_len ?_)
  refine PyProof.Rows.callWith_builtin1 (PyProof.Rows.args_cons ?_ rfl) rfl rfl
  refine Call_ (ld_blt I hg2 hm2 boot_set ?_)
  refine PyProof.Rows.callWith_type1 (PyProof.Rows.args_cons (thn (ha.run pins s σ H _ I h) fun v s1 ⟨x, H1, I1, r1, q1⟩ => PyProof.Rows.args_nil ?_) na) na rfl
  obtain ⟨l, ns, rfl, hq, hnd, hl, q1⟩ := q1
  cases r1
  obtain ⟨its, r, pl, hz⟩ := I1.tuple hq
  have hi : IntsAre its.toArray.toList ns := r.ints
  refine call_set_tupI ns (I1.ok.hd hc) (show s1.heap.IsTuple l its.toArray from pl) hi (by unfold scanBound; omega) fun h' tk c R1 hcn k => ?_
  refine PyProof.Rows.args_nil ?_
  obtain ⟨o, es, ep, t, ho, hex, hdt, g, nd, hm2, hb, hf, hn, hr, hl2⟩ := R1
  have hp : (es.toList.map keyOf).Perm ns := (List.perm_ext_iff_of_nodup nd hnd).mpr fun j => by
    rw [← hm2 j, decide_eq_true_eq]
  have hlen : es.size = ns.length := by
    have := hp.length_eq
    rw [List.length_map, Array.length_toList] at this
    exact this
  have I2 : L2.Inv X pins σ H1 { s1 with heap := h', toks := tk } := I1.kept fun b o e => k b o e
  exact call_len_set ho hex hdt hf (by rw [hlen]; omega) ⟨.int ns.length, H1, I2.tok _, ⟨_, by rw [hlen]⟩, q1⟩

/-! ### sorted(tuple of ints) -/
theorem collect_tuple {prog : Program} {w : World} {A : Around} {E : Value → Shared → Prop} {s : Shared} {l : Addr} {vs : List Value} {Q : List Value → Shared → Prop} (hl : s.heap.IsTuple l vs.toArray)
    (h : Q vs { s with heap := (s.heap.push (seqObj "list" #[] 0)).update s.heap.objs.size (Obj.mapSeq (· ++ vs.toArray)) }) (hsz : vs.length ≤ sizeLine) :
    wpAny (model prog w) A (collect (.ref l)) Q E s := by
  obtain ⟨o, ho, hc, n, hd⟩ := id hl
  unfold collect
  refine wpAny_bind (wpAny_runValue (codeAny_builtin entry_proto_collect' ?_))
  show wpAny _ _ (do again (.builtin "list.__iadd__" ⟨[← newList [], .ref l], []⟩)) _ _ s
  refine wpAny_bind (wpAny_newList (wpAny_pure ⟨Code.quiet_builtin _ (by decide +kernel), codeAny_builtin entry_list_iadd' ?_⟩))
  show wpAny _ _ (Builtin.List.listExtendWith (.ref s.heap.objs.size) (.ref l) (.ref s.heap.objs.size)) _ _ { s with heap := s.heap.push (seqObj "list" #[] 0) }
  unfold Builtin.List.listExtendWith
  have ho' : (s.heap.push (seqObj "list" #[] 0)).get? l = some o := Heap.get?_push_of_some _ ho
  refine wpAny_bind (wpAny_typeOf (T := "tuple") ⟨o, ho', hc⟩ ?_)
  have ht : (Value.type "tuple" == Value.type "tuple") = true := by rfl
  rw [if_pos (by rw [ht]; simp)]
  refine wpAny_bind (listItems_at ho' hd ?_)
  refine wpAny_bind (listItems_at (xs := #[]) (n := 0) (Heap.get?_push_size _ rfl) rfl ?_)
  rw [if_neg (by simp)]
  refine wpAny_bind (listUpdate_at (xs := #[]) (n := 0) (Heap.get?_push_size _ rfl) rfl ?_ (Nat.zero_le _) (by show (#[] ++ vs.toArray).size ≤ sizeLine + 1; simp only [Array.size_append, List.size_toArray, List.length_nil]; omega))
  refine wpAny_pure ?_
  show wpAny (model prog w) A (do
      let o ← load s.heap.objs.size
      match o.data with
      | .seq xs _ => pure xs.toList
      | _ => unsupported "internal:collect") Q E { s with heap := (s.heap.push (seqObj "list" #[] 0)).update s.heap.objs.size (Obj.mapSeq (· ++ vs.toArray)) }
  refine wpAny_bind (wpAny_load (get?_update_seq (Heap.get?_push_size _ rfl) _) ?_)
  show wpAny _ _ (pure ((#[] : Array Value) ++ vs.toArray).toList) Q E _
  rw [show ((#[] : Array Value) ++ vs.toArray).toList = vs by simp]
  exact wpAny_pure h
theorem sorted_ordT {prog : Program} {w : World} {A : Around} {E : Value → Shared → Prop} {s : Shared} {l : Addr} {vs : List Value} {ltv : Value → Value → Bool} {Q : Value → Shared → Prop} (O : SrtO.Swo ltv) (hl : s.heap.IsTuple l vs.toArray) (hz : vs.length ≤ sizeLine)
    (hS : 2 ≤ vs.length → ∀ (h₁ : Heap) (a : Addr), h₁.get? a = some (seqObj "list" vs.toArray 0) → (∀ b o, s.heap.get? b = some o → b ≠ a ∧ h₁.get? b = some o) → SrtO.SortableO prog w A.in1.in1 { s with heap := h₁ } a vs ltv)
    (h : ∀ out : List Value, SrtO.Srtd ltv out → SrtO.Stb ltv out vs → Q (.ref (s.heap.objs.size + 1)) { s with heap := sortedAll s.heap vs out.toArray }) :
    wpAny (model prog w) A (call (.builtin "sorted") [.ref l]) Q E s := by
  refine Calls.call_function_entry kind_sorted plain_sorted entry_sorted (args_sorted1 _) ?_
  unfold Builtin.«sorted»
  refine wpAny_bind (m := checkCount "sorted" 1 1 _) (wpAny_pure ?_)
  refine wpAny_bind (collect_tuple hl ?_ hz)
  refine wpAny_bind (wpAny_newList ?_ hz)
  have hsz : ((s.heap.push (seqObj "list" #[] 0)).update s.heap.objs.size (Obj.mapSeq (· ++ vs.toArray))).objs.size = s.heap.objs.size + 1 := by
    rw [Heap.size_update, size_push']
  have hoL : (((s.heap.push (seqObj "list" #[] 0)).update s.heap.objs.size (Obj.mapSeq (· ++ vs.toArray))).push (seqObj "list" vs.toArray 0)).get? (s.heap.objs.size + 1) = some (seqObj "list" vs.toArray 0) := by
    rw [← hsz]; exact Heap.get?_push_size _ rfl
  have keep : ∀ b o, s.heap.get? b = some o → b ≠ s.heap.objs.size + 1 ∧ (((s.heap.push (seqObj "list" #[] 0)).update s.heap.objs.size (Obj.mapSeq (· ++ vs.toArray))).push (seqObj "list" vs.toArray 0)).get? b = some o := fun b o q => by
    have hlt : b < s.heap.objs.size := Heap.lt_size q
    refine ⟨Nat.ne_of_lt (Nat.lt_succ_of_lt hlt), Heap.get?_push_of_some _ ?_⟩
    rw [Heap.get?_update_ne _ _ _ _ (Nat.ne_of_lt hlt)]
    exact Heap.get?_push_of_some _ q
  show wpAny _ _ _ _ _ { s with heap := ((s.heap.push (seqObj "list" #[] 0)).update s.heap.objs.size (Obj.mapSeq (· ++ vs.toArray))).push (seqObj "list" vs.toArray 0) }
  rw [hsz]
  refine wpAny_bind (wpAny_holding (wpAny_call_entry slot_list_sort ⟨_, hoL, rfl⟩ entry_list_sort (SrtO.list_sort_ord O hoL hz (fun h2 => hS h2 _ _ hoL keep) fun out hs hb => ⟨_, rfl, ?_⟩) (args_list_sort _)))
  exact wpAny_pure ⟨_, rfl, h out hs hb⟩
def rSortedTI (K : PySem.W.Frag) : List V → Hp → VK → Prop := fun vs H Q => ∃ (a : Addr) (ns : List Int), vs = [V.ref a] ∧ SqT K H a (ns.map V.int) ∧
  ∀ (ns' : List Int) (p : Addr), ns'.Perm ns → ns'.Pairwise (· ≤ ·) → H p = none → Q (.ref p) (upd H p (.lst (ns'.map V.int)))
theorem cr_sortedTI {X : Cx} : CallR X (.builtin "sorted") (rSortedTI X.K) := by
  intro pins s σ H vs us Q I r h
  obtain ⟨a, ns, rfl, hs, q⟩ := h
  obtain ⟨its, rv, hl, hz⟩ := I.tuple hs
  rw [Vals.ref1 r]
  have hi := rv.ints
  refine sorted_ordT SrtO.swo_int hl (by rw [← rv.length]; exact hz) (fun h2 h₁ a' _ _ => SrtO.ints_sortable hi h2) fun out h1 h2 => ?_
  obtain ⟨k1, k2, k3⟩ := SrtO.ints_out hi h1 h2
  obtain ⟨ep, he'⟩ := PyProof.Rows.sortedAll_at s.heap its out.toArray
  have hlen : ((out.map SrtO.iv).map V.int).length ≤ sizeLine := by
    rw [List.length_map, k2.length_eq]
    rw [List.length_map] at hz
    exact hz
  exact ⟨.ref _, upd H (s.heap.objs.size + 1) (.lst ((out.map SrtO.iv).map V.int)), I.laid (t' := s.toks) (fun _ _ => PyProof.Rows.sortedAll_old) (Nat.le_succ _) ⟨hlen, out, ep, vals_of_ints k1, he'⟩, rfl, q _ _ k2 k3 (I.hok.fresh (Nat.le_succ _))⟩
end DL
set_option maxRecDepth 100000
set_option maxHeartbeats 2000000
/-! DL7: calls of built-ins by data; walks over enumerate and zip; isinstance. -/
namespace DL
open PySem PySem.Spec PyProof.Rows L2
variable [TabC]

/-! ### argument lists, each value shallow -/
inductive ShL (B : BB) (Hb F H : Hp) : List V → List Dat → Prop
  | nil : ShL B Hb F H [] []
  | cons {v vs d ds} : Res .sh B Hb F H v d → ShL B Hb F H vs ds → ShL B Hb F H (v :: vs) (d :: ds)
def liftH (c : Nat) (T : TAD) : TA := fun σ H Q => ∃ (A : Addr → Prop) (B : BB) (F : Hp) (ε : Ev) (P : List Dat → Prop) (n : Nat),
  Rs A B F H σ ε ∧ BoxAt B H n ∧ n + c ≤ CAP ∧ T ε P ∧ ∀ vs F' H' ds, Gr NoA B c F H F' H' → ShL B H F' H' vs ds → P ds → Q vs H'
def PHD (X : Cx) (c : Nat) (es : List Expr) (T : TAD) : Prop := PA X es (liftH c T)
section
variable {X : Cx} {e a b : Expr} {es rest : List Expr} {m : Md} {c c1 c2 c3 : Nat} {T Ta Tb : TD} {U : TAD} {pos : Pos}
theorem phd_nil : PHD X 0 [] aNil := pa_weak pa_nil fun σ H Q ⟨A, B, F, ε, P, n, r, bx, hn, t, k⟩ => k [] F H [] (Gr.refl r.ex) .nil t
theorem phd_cons (h : PD .sh X c1 e T) (h2 : PHD X c2 es U) (hs : starEach (e :: es) X.env = (false, eval e X.env) :: starEach es X.env := by rfl) : PHD X (c1 + c2) (e :: es) (aCons T U) := pa_weak (pa_cons h h2 hs) fun σ H Q ⟨A, B, F, ε, P, n, r, bx, hn, t, k⟩ =>
  ⟨A, B, F, ε, _, n, r, bx, by omega, t, fun v F1 H1 d g1 q1 t1 => ⟨A, B, F1, ε, _, n + c1, r.gr g1, g1.box n bx, by omega, t1, fun vs F2 H2 ds g2 q2 p => by
    have up : ∀ {vs ds}, ShL B H1 F2 H2 vs ds → ShL B H F2 H2 vs ds := by
      intro vs ds z
      induction z with
      | nil => exact .nil
      | cons r1 _ ih => exact .cons r1 ih
    exact k (v :: vs) F2 H2 (d :: ds) (g1.trans g2) (.cons (q1.gr g2) (up q2)) p⟩⟩

/-- what a built-in's call does, by data -/
def CrD (m : Md) (r : List V → Hp → VK → Prop) (f : List Dat → (Dat → Prop) → Prop) : Prop := ∀ (B : BB) (F H Hb : Hp) (vs : List V) (ds : List Dat) (P : Dat → Prop) (Q : VK), Ex F H → (∀ a, H a = none → Hb a = none) → (∀ b, B.has b → ∃ o, H b = some o) → ShL B Hb F H vs ds → f ds P →
  (∀ v F' H' z, Gr NoA B 0 F H F' H' → Res m B Hb F' H' v z → P z → Q v H') → r vs H Q
def dCr (f : List Dat → (Dat → Prop) → Prop) (U : TAD) : TD := fun ε P => U ε fun ds => f ds P
theorem cr_run {r : List V → Hp → VK → Prop} {f : List Dat → (Dat → Prop) → Prop} (hr : CrD m r f) : ∀ σ H Q, lift m c (dCr f U) σ H Q → tCB r (liftH c U) σ H Q := fun σ H Q ⟨A, B, F, ε, P, n, rs, bx, hn, t, k⟩ =>
  ⟨A, B, F, ε, _, n, rs, bx, hn, t, fun vs F' H' ds g q p => hr B F' H' H vs ds P Q g.sub (fun a h => g.free h) (fun b hb => ((rs.gr g).bx b hb).2.2) q p fun v F2 H2 z g2 q2 p2 => k v F2 H2 z (g.trans g2) q2 p2⟩
variable {x : Str} {p : Pos} {id Ty : String} {r : List V → Hp → VK → Prop} {f : List Dat → (Dat → Prop) → Prop}
theorem pd_callB (hc : CallR X (.builtin id) r) (hr : CrD m r f) (hg : Gl X x) (hm : X.mg x = none) (hv : bootBuiltins x = some (.builtin id)) (ha : PHD X c (e :: es) U) (hn : x ≠ "__name__" := by decide) (hdb : (x == ("__debug__" : Str)) = false := by decide)
    (he : starEach (e :: es) X.env = (false, eval e X.env) :: starEach es X.env := by rfl) (hpl : (backTo pos (starEach es X.env)).any (·.1) = false := by rfl) : PD m X c (.Call (.Name x p) (e :: es) [] pos) (dCr f U) :=
  pe_weak (pe_callB hc hg hm hv ha hn hdb he hpl) (cr_run hr)
theorem pd_callTy (hc : CallR X (.type Ty) r) (hr : CrD m r f) (hg : Gl X x) (hm : X.mg x = none) (hv : bootBuiltins x = some (.type Ty)) (ha : PHD X c (e :: es) U) (hn : x ≠ "__name__" := by decide) (hdb : (x == ("__debug__" : Str)) = false := by decide)
    (he : starEach (e :: es) X.env = (false, eval e X.env) :: starEach es X.env := by rfl) (hpl : (backTo pos (starEach es X.env)).any (·.1) = false := by rfl) : PD m X c (.Call (.Name x p) (e :: es) [] pos) (dCr f U) :=
  pe_weak (pe_callTy hc hg hm hv ha hn hdb he hpl) (cr_run hr)

/-! ### len, int, tuple, list -/
def rLen (K : PySem.W.Frag) : List V → Hp → VK → Prop := fun xs H Q => (∃ p ys, xs = [.ref p] ∧ (SqL K H p ys ∨ SqT K H p ys) ∧ Q (.int ys.length) H) ∨ (∃ a kvs, xs = [V.ref a] ∧ H a = some (.dK kvs) ∧ Q (.int kvs.length) H)
theorem call_lenA : CallR X (.builtin "len") (rLen X.K) := call_len_seq.or call_lenD
def fLen : List Dat → (Dat → Prop) → Prop
  | [.lst xs], P => P (.int xs.length)
  | [.tup xs], P => P (.int xs.length)
  | [.dct xs], P => P (.int xs.length)
  | _, _ => False
theorem cd_len {K : PySem.W.Frag} : CrD .rep (rLen K) fLen := fun B F H Hb vs ds P Q ex hb bx h t k => by
  unfold fLen at t
  split at t
  · cases h with
    | cons h1 h2 =>
      cases h2
      obtain ⟨p, vs, rfl, h3, h4⟩ := sh_lst ex h1
      refine .inl ⟨p, vs, rfl, .inl (SqL.of h3), ?_⟩
      rw [h4.length]
      exact opd_same ex .int t k
  · cases h with
    | cons h1 h2 =>
      cases h2
      obtain ⟨p, vs, rfl, h3, h4⟩ := sh_tup ex h1
      refine .inl ⟨p, vs, rfl, .inr h3.sq, ?_⟩
      rw [h4.length]
      exact opd_same ex .int t k
  · cases h with
    | cons h1 h2 =>
      cases h2
      obtain ⟨p, vs, rfl, h3, h4, h5⟩ := sh_dct ex h1
      refine .inr ⟨p, vs, rfl, h3, ?_⟩
      have := congrArg List.length h4
      rw [List.length_map, List.length_map] at this
      rw [this]
      exact opd_same ex .int t k
  · exact t.elim
def rInt : List V → Hp → VK → Prop := fun xs H Q => (∃ i, xs = [.int i] ∧ Q (.int i) H) ∨ ∃ k, xs = [.bl k] ∧ Q (.int (if k then 1 else 0)) H
def fInt : List Dat → (Dat → Prop) → Prop
  | [.int i], P => P (.int i)
  | [.bl b], P => P (.int (if b then 1 else 0))
  | _, _ => False
theorem cd_int : CrD .rep rInt fInt := fun B F H Hb vs ds P Q ex hb bx h t k => by
  unfold fInt at t
  split at t
  · cases h with
    | cons h1 h2 =>
      cases h2
      cases sh_int h1
      exact .inl ⟨_, rfl, opd_same ex .int t k⟩
  · cases h with
    | cons h1 h2 =>
      cases h2
      cases sh_bl h1
      exact .inr ⟨_, rfl, opd_same ex .int t k⟩
  · exact t.elim
def rTup (K : PySem.W.Frag) : List V → Hp → VK → Prop := fun xs H Q => ∃ p ys, xs = [.ref p] ∧ ((SqL K H p ys ∧ NewT ys H Q) ∨ (SqT K H p ys ∧ Q (.ref p) H))
def fTup : List Dat → (Dat → Prop) → Prop
  | [.lst xs], P => P (.tup xs)
  | [.tup xs], P => P (.tup xs)
  | _, _ => False
theorem sh_rep_tup {B : BB} {Hb F H : Hp} {v : V} {xs : List Dat} (h : Res .sh B Hb F H v (.tup xs)) : Rep B F v (.tup xs) := by
  rcases h with h | ⟨p, hv, w⟩
  · exact h
  · obtain ⟨o, _, c⟩ := w.con; cases o <;> exact c.elim
theorem cd_tup {K : PySem.W.Frag} : CrD .rep (rTup K) fTup := fun B F H Hb vs ds P Q ex hb bx h t k => by
  unfold fTup at t
  split at t
  · cases h with
    | cons h1 h2 =>
      cases h2
      obtain ⟨p, vs, rfl, h3, h4⟩ := sh_lst ex h1
      exact ⟨p, vs, rfl, .inl ⟨SqL.of h3, opd_tup ex h4 t k⟩⟩
  · cases h with
    | cons h1 h2 =>
      cases h2
      have h5 := sh_rep_tup h1
      obtain ⟨p, vs, rfl, h3, h4⟩ := sh_tup ex h1
      exact ⟨p, vs, rfl, .inr ⟨h3.sq, opd_same ex h5 t k⟩⟩
  · exact t.elim
def rLst (K : PySem.W.Frag) : List V → Hp → VK → Prop := fun xs H Q => ∃ p ys, xs = [.ref p] ∧ (SqL K H p ys ∨ SqT K H p ys) ∧ ∀ l, H l = none → Q (.ref l) (upd H l (.lst ys))
def fLst : List Dat → (Dat → Prop) → Prop
  | [.lst xs], P => P (.lst xs)
  | [.tup xs], P => P (.lst xs)
  | _, _ => False
theorem cd_lst {K : PySem.W.Frag} : CrD .fr (rLst K) fLst := fun B F H Hb vs ds P Q ex hb bx h t k => by
  unfold fLst at t
  split at t
  · cases h with
    | cons h1 h2 =>
      cases h2
      obtain ⟨p, vs, rfl, h3, h4⟩ := sh_lst ex h1
      exact ⟨p, vs, rfl, .inl (SqL.of h3), opd_own ex hb bx h4 t k⟩
  · cases h with
    | cons h1 h2 =>
      cases h2
      obtain ⟨p, vs, rfl, h3, h4⟩ := sh_tup ex h1
      exact ⟨p, vs, rfl, .inr h3.sq, opd_own ex hb bx h4 t k⟩
  · exact t.elim

/-! ### max, min, sum, sorted, all, any -/
def intsD : List Dat → Option (List Int)
  | [] => some []
  | .int i :: r => (intsD r).map (i :: ·)
  | _ :: _ => none
theorem ints_eq : ∀ {ds : List Dat} {ns : List Int}, intsD ds = some ns → ds = ns.map Dat.int
  | [], ns, h => by simp [intsD] at h; subst h; rfl
  | d :: ds, ns, h => by
    cases d <;> simp only [intsD] at h <;> try cases h
    rename_i i
    cases e : intsD ds with
    | none => rw [e] at h; cases h
    | some ms =>
      rw [e] at h
      cases h
      rw [ints_eq e, List.map_cons]
theorem ints_map : ∀ ns : List Int, intsD (ns.map Dat.int) = some ns
  | [] => rfl
  | n :: ns => by rw [List.map_cons, intsD, ints_map ns] <;> rfl
def blsD : List Dat → Option (List Bool)
  | [] => some []
  | .bl i :: r => (blsD r).map (i :: ·)
  | _ :: _ => none
theorem bls_eq : ∀ {ds : List Dat} {ns : List Bool}, blsD ds = some ns → ds = ns.map Dat.bl
  | [], ns, h => by simp [blsD] at h; subst h; rfl
  | d :: ds, ns, h => by
    cases d <;> simp only [blsD] at h <;> try cases h
    rename_i i
    cases e : blsD ds with
    | none => rw [e] at h; cases h
    | some ms =>
      rw [e] at h
      cases h
      rw [bls_eq e, List.map_cons]
theorem bls_map : ∀ ns : List Bool, blsD (ns.map Dat.bl) = some ns
  | [] => rfl
  | n :: ns => by rw [List.map_cons, blsD, bls_map ns] <;> rfl
theorem sh_ints {B : BB} {Hb F H : Hp} {v : V} {xs : List Dat} {ns : List Int} (ex : Ex F H) (h : Res .sh B Hb F H v (.lst xs)) (e : intsD xs = some ns) : ∃ p, v = .ref p ∧ H p = some (.lst (ns.map V.int)) := by
  obtain ⟨p, vs, h1, h2, h3⟩ := sh_lst ex h
  rw [ints_eq e] at h3
  rw [h3.ints] at h2
  exact ⟨p, h1, h2⟩
theorem sh_tints {B : BB} {Hb F H : Hp} {v : V} {xs : List Dat} {ns : List Int} (ex : Ex F H) (h : Res .sh B Hb F H v (.tup xs)) (e : intsD xs = some ns) : ∃ p, v = .ref p ∧ KT H p (ns.map V.int) := by
  obtain ⟨p, vs, h1, h2, h3⟩ := sh_tup ex h
  rw [ints_eq e] at h3
  rw [h3.ints] at h2
  exact ⟨p, h1, h2⟩
theorem sh_bls {B : BB} {Hb F H : Hp} {v : V} {xs : List Dat} {ns : List Bool} (ex : Ex F H) (h : Res .sh B Hb F H v (.lst xs)) (e : blsD xs = some ns) : ∃ p, v = .ref p ∧ H p = some (.lst (ns.map V.bl)) := by
  obtain ⟨p, vs, h1, h2, h3⟩ := sh_lst ex h
  rw [bls_eq e] at h3
  rw [h3.bls] at h2
  exact ⟨p, h1, h2⟩
def rMaxA (K : PySem.W.Frag) : List V → Hp → VK → Prop := fun xs H Q => rMax K xs H Q ∨ ∃ i j, xs = [.int i, .int j] ∧ Q (.int (if j > i then j else i)) H
theorem call_maxA (hc : X.calm = true) : CallR X (.builtin "max") (rMaxA X.K) := (cr_max hc).or (call_max2 hc)
def fMax : List Dat → (Dat → Prop) → Prop
  | [.lst xs], P => ∃ ns, intsD xs = some ns ∧ 0 < ns.length ∧ ∀ m, m ∈ ns → (∀ y, y ∈ ns → y ≤ m) → P (.int m)
  | [.int i, .int j], P => P (.int (if j > i then j else i))
  | _, _ => False
theorem cd_max {K : PySem.W.Frag} : CrD .rep (rMaxA K) fMax := fun B F H Hb vs ds P Q ex hb bx h t k => by
  unfold fMax at t
  split at t
  · obtain ⟨ns, h1, h2, h3⟩ := t
    cases h with
    | cons h4 h5 =>
      cases h5
      obtain ⟨p, rfl, h6⟩ := sh_ints ex h4 h1
      exact .inl ⟨p, ns, rfl, SqL.of h6, h2, fun m hm hy => opd_same ex .int (h3 m hm hy) k⟩
  · cases h with
    | cons h1 h2 =>
      cases h2 with
      | cons h3 h4 =>
        cases h4
        cases sh_int h1
        cases sh_int h3
        exact .inr ⟨_, _, rfl, opd_same ex .int t k⟩
  · exact t.elim
def rMinA (K : PySem.W.Frag) : List V → Hp → VK → Prop := fun xs H Q => rMin K xs H Q ∨ ∃ i j, xs = [.int i, .int j] ∧ Q (.int (if j < i then j else i)) H
theorem call_minA (hc : X.calm = true) : CallR X (.builtin "min") (rMinA X.K) := (cr_min hc).or (call_min2 hc)
def fMin : List Dat → (Dat → Prop) → Prop
  | [.lst xs], P => ∃ ns, intsD xs = some ns ∧ 0 < ns.length ∧ ∀ m, m ∈ ns → (∀ y, y ∈ ns → m ≤ y) → P (.int m)
  | [.int i, .int j], P => P (.int (if j < i then j else i))
  | _, _ => False
theorem cd_min {K : PySem.W.Frag} : CrD .rep (rMinA K) fMin := fun B F H Hb vs ds P Q ex hb bx h t k => by
  unfold fMin at t
  split at t
  · obtain ⟨ns, h1, h2, h3⟩ := t
    cases h with
    | cons h4 h5 =>
      cases h5
      obtain ⟨p, rfl, h6⟩ := sh_ints ex h4 h1
      exact .inl ⟨p, ns, rfl, SqL.of h6, h2, fun m hm hy => opd_same ex .int (h3 m hm hy) k⟩
  · cases h with
    | cons h1 h2 =>
      cases h2 with
      | cons h3 h4 =>
        cases h4
        cases sh_int h1
        cases sh_int h3
        exact .inr ⟨_, _, rfl, opd_same ex .int t k⟩
  · exact t.elim
def fSum : List Dat → (Dat → Prop) → Prop
  | [.lst xs], P => ∃ ns, intsD xs = some ns ∧ P (.int ns.sum)
  | _, _ => False
theorem cd_sum {K : PySem.W.Frag} : CrD .rep (rSum K) fSum := fun B F H Hb vs ds P Q ex hb bx h t k => by
  unfold fSum at t
  split at t
  · obtain ⟨ns, h1, h2⟩ := t
    cases h with
    | cons h4 h5 =>
      cases h5
      obtain ⟨p, rfl, h6⟩ := sh_ints ex h4 h1
      exact ⟨p, ns, rfl, SqL.of h6, opd_same ex .int h2 k⟩
  · exact t.elim
def rSortedA (K : PySem.W.Frag) : List V → Hp → VK → Prop := fun xs H Q => rSortedI K xs H Q ∨ rSortedTI K xs H Q
theorem call_sortedA : CallR X (.builtin "sorted") (rSortedA X.K) := cr_sortedI.or cr_sortedTI
def fSorted : List Dat → (Dat → Prop) → Prop
  | [.lst xs], P => ∃ ns, intsD xs = some ns ∧ ∀ ms : List Int, ms.Perm ns → ms.Pairwise (· ≤ ·) → P (.lst (ms.map Dat.int))
  | [.tup xs], P => ∃ ns, intsD xs = some ns ∧ ∀ ms : List Int, ms.Perm ns → ms.Pairwise (· ≤ ·) → P (.lst (ms.map Dat.int))
  | _, _ => False
theorem cd_sorted {K : PySem.W.Frag} : CrD .fr (rSortedA K) fSorted := fun B F H Hb vs ds P Q ex hb bx h t k => by
  unfold fSorted at t
  split at t
  · obtain ⟨ns, h1, h2⟩ := t
    cases h with
    | cons h4 h5 =>
      cases h5
      obtain ⟨p, rfl, h6⟩ := sh_ints ex h4 h1
      exact .inl ⟨p, ns, rfl, SqL.of h6, fun ms q h7 h8 => opd_own ex hb bx (Reps.of_ints ms) (h2 ms h7 h8) k q⟩
  · obtain ⟨ns, h1, h2⟩ := t
    cases h with
    | cons h4 h5 =>
      cases h5
      obtain ⟨p, rfl, h6⟩ := sh_tints ex h4 h1
      exact .inr ⟨p, ns, rfl, h6.sq, fun ms q h7 h8 => opd_own ex hb bx (Reps.of_ints ms) (h2 ms h7 h8) k q⟩
  · exact t.elim
def fAll : List Dat → (Dat → Prop) → Prop
  | [.lst xs], P => ∃ bs, blsD xs = some bs ∧ P (.bl (bs.all _root_.id))
  | _, _ => False
theorem cd_all {K : PySem.W.Frag} : CrD .rep (rAll K) fAll := fun B F H Hb vs ds P Q ex hb bx h t k => by
  unfold fAll at t
  split at t
  · obtain ⟨ns, h1, h2⟩ := t
    cases h with
    | cons h4 h5 =>
      cases h5
      obtain ⟨p, rfl, h6⟩ := sh_bls ex h4 h1
      exact ⟨p, ns, rfl, SqL.of h6, opd_same ex .bl h2 k⟩
  · exact t.elim
def fAny : List Dat → (Dat → Prop) → Prop
  | [.lst xs], P => ∃ bs, blsD xs = some bs ∧ P (.bl (bs.any _root_.id))
  | _, _ => False
theorem cd_any {K : PySem.W.Frag} : CrD .rep (rAny K) fAny := fun B F H Hb vs ds P Q ex hb bx h t k => by
  unfold fAny at t
  split at t
  · obtain ⟨ns, h1, h2⟩ := t
    cases h with
    | cons h4 h5 =>
      cases h5
      obtain ⟨p, rfl, h6⟩ := sh_bls ex h4 h1
      exact ⟨p, ns, rfl, SqL.of h6, opd_same ex .bl h2 k⟩
  · exact t.elim

/-! ### isinstance -/
def tyN : Dat → Option String
  | .non => some "NoneType"
  | .bl _ => some "bool"
  | .int _ => some "int"
  | .str _ => some "str"
  | .tup _ => some "tuple"
  | .lst _ => some "list"
  | .dct _ => some "dict"
  | .dtt _ => some "dict"
  | _ => none
def isT (a n : String) : Bool := a == n || (a == "bool" && n == "int")
def tyNames : List String := ["bool", "int", "str", "tuple", "list", "dict"]
def tyNames' : List String := "NoneType" :: tyNames
theorem kit_all : (tyNames'.all fun a => tyNames.all fun n => kitB a n == some (isT a n)) = true := by decide +kernel
theorem tyN_mem {d : Dat} {a : String} (h : tyN d = some a) : a ∈ tyNames' := by
  cases d <;> simp only [tyN, Option.some.injEq] at h <;> first | (cases h; done) | (subst h; decide)
theorem kit_at {K : PySem.W.Frag} {d : Dat} {a n : String} (h : tyN d = some a) (hn : n ∈ tyNames) : PySem.W.kitOne K (.type a) (.type n) = some (isT a n) :=
  kit_ty (eq_of_beq (List.all_eq_true.mp (List.all_eq_true.mp kit_all a (tyN_mem h)) n hn))
theorem tyx_of {K : PySem.W.Frag} {B : BB} {Hb F H : Hp} {v : V} {d : Dat} {a : String} (ex : Ex F H) (h : Res .sh B Hb F H v d) (ha : tyN d = some a) : TyX K H v (.type a) := by
  cases d <;> simp only [tyN, Option.some.injEq] at ha <;> first | (cases ha; done) | skip
  · subst ha; cases sh_non h; exact .base .non
  · subst ha; cases sh_bl h; exact .base (.bl _)
  · subst ha; cases sh_int h; exact .base (.int _)
  · subst ha; cases sh_str h; exact .base (.str _)
  · subst ha
    obtain ⟨p, vs, rfl, ⟨o, h3, _⟩, h4⟩ := sh_tup ex h
    exact .fTuple h3
  · subst ha
    obtain ⟨p, vs, rfl, h3, h4⟩ := sh_lst ex h
    exact .base (.lst h3)
  · subst ha
    obtain ⟨p, vs, rfl, h3, h4, h5⟩ := sh_dct ex h
    exact .base (.dK h3)
  · subst ha
    obtain ⟨p, vs, rfl, h3, h4, h5⟩ := sh_dtt ex h
    exact .base (.dT h3)
/-- isinstance(x, (c1, c2, ..)), the tuple known -/
def rIsiTF (K : PySem.W.Frag) : List V → Hp → VK → Prop := fun xs H Q => ∃ (x : V) (tp : Addr) (cs : List V) (t : Value) (us : List Value) (b : Bool), xs = [x, .ref tp] ∧ KT H tp cs ∧ Paired ClsV cs us ∧ TyX K H x t ∧ PySem.W.kitAny K t us = some b ∧ Q (.bl b) H
theorem call_isiTF : CallR X (.builtin "isinstance") (rIsiTF X.K) := by
  intro pins s σ H xs us Q I r h
  obtain ⟨x, tp, cs, t, ws, b, rfl, ⟨o', hT, _⟩, k, ty, e, q⟩ := h
  obtain ⟨u1, u2, rfl, r1, r2⟩ := vals2 r
  cases (show u2 = Value.ref tp from r2)
  obtain ⟨P, Z, p, hx⟩ := kit_of I r1 ty
  obtain ⟨_, _, its, rv, o, h1, h2, n, h3⟩ := (show ObjOk X.prog X.w H s.heap tp (.frz o' (.tup cs)) from I.hok tp _ hT)
  have e3 := ClsV.all k rv
  subst e3
  obtain ⟨oc, od, dt, sl⟩ := o
  simp only at h2 h3
  subst h2 h3
  exact PySem.W.kia_tup Z I.kIn p h1 e hx fun tk => ⟨.bl b, H, I.tok tk, rfl, q⟩
def rIsO (C : Addr) : List V → Hp → VK → Prop := fun xs H Q => ∃ a dx fs, xs = [.ref a, .ref C] ∧ H a = some (.ins C dx fs) ∧ Q (.bl true) H
def fIsi : List Dat → (Dat → Prop) → Prop
  | [d, .ty n], P => ∃ a, tyN d = some a ∧ n ∈ tyNames ∧ P (.bl (isT a n))
  | _, _ => False
def fIsi2 : List Dat → (Dat → Prop) → Prop
  | [d, .tup [.ty n, .ty m]], P => ∃ a, tyN d = some a ∧ n ∈ tyNames ∧ m ∈ tyNames ∧ P (.bl (isT a n || isT a m))
  | _, _ => False
def fIsO (C : Addr) : List Dat → (Dat → Prop) → Prop
  | [.obj C' fs, .cls C2], P => C' = C ∧ C2 = C ∧ P (.bl true)
  | _, _ => False
theorem sh_ty {B : BB} {Hb F H : Hp} {v : V} {n : String} (h : Res .sh B Hb F H v (.ty n)) : v = .ty n := by
  rcases h with h | ⟨p, _, w⟩
  · cases h; rfl
  · obtain ⟨o, _, c⟩ := w.con; cases o <;> exact c.elim
theorem sh_cls {B : BB} {Hb F H : Hp} {v : V} {C : Addr} (h : Res .sh B Hb F H v (.cls C)) : v = .ref C := by
  rcases h with h | ⟨p, _, w⟩
  · cases h; rfl
  · obtain ⟨o, _, c⟩ := w.con; cases o <;> exact c.elim
theorem cd_isi {K : PySem.W.Frag} : CrD .rep (rIsi K) fIsi := fun B F H Hb vs ds P Q ex hb bx h t k => by
  unfold fIsi at t
  split at t
  · obtain ⟨a, h1, h2, h3⟩ := t
    cases h with
    | cons h4 h5 =>
      cases h5 with
      | cons h6 h7 =>
        cases h7
        cases sh_ty h6
        exact ⟨_, _, _, _, _, rfl, .ty _, tyx_of ex h4 h1, kit_at h1 h2, opd_same ex .bl h3 k⟩
  · exact t.elim
theorem cd_isi2 {K : PySem.W.Frag} : CrD .rep (rIsiTF K) fIsi2 := fun B F H Hb vs ds P Q ex hb bx h t k => by
  unfold fIsi2 at t
  split at t
  · obtain ⟨a, h1, h2, h2', h3⟩ := t
    cases h with
    | cons h4 h5 =>
      cases h5 with
      | cons h6 h7 =>
        cases h7
        obtain ⟨p, vs, rfl, h8, h9⟩ := sh_tup ex h6
        cases h9 with
        | cons r1 r2 =>
          cases r2 with
          | cons r3 r4 =>
            cases r4
            cases r1
            cases r3
            rename_i n m _
            have e1 : PySem.W.kitAny K (.type a) [.type n, .type m] = some (isT a n || isT a m) := by
              cases e0 : isT a n with
              | true => exact kitAny_cons (b := true) (by rw [kit_at h1 h2, e0]) (fun z => by cases z) fun _ => rfl
              | false =>
                refine kitAny_cons (b := false) (by rw [kit_at h1 h2, e0]) (fun _ => ?_) fun z => by cases z
                rw [Bool.false_or]
                cases e5 : isT a m with
                | true => exact kitAny_cons (b := true) (by rw [kit_at h1 h2', e5]) (fun z => by cases z) fun _ => rfl
                | false => exact kitAny_cons (b := false) (by rw [kit_at h1 h2', e5]) (fun _ => kitAny_nil) fun z => by cases z
            exact ⟨_, _, _, _, _, _, rfl, h8, .cons (.ty _) (.cons (.ty _) .nil), tyx_of ex h4 h1, e1, opd_same ex .bl h3 k⟩
  · exact t.elim
theorem cd_isO {C : Addr} : CrD .rep (rIsO C) (fIsO C) := fun B F H Hb vs ds P Q ex hb bx h t k => by
  unfold fIsO at t
  split at t
  · obtain ⟨h1, h2, h3⟩ := t
    subst h1 h2
    cases h with
    | cons h4 h5 =>
      cases h5 with
      | cons h6 h7 =>
        cases h7
        cases sh_cls h6
        rcases h4 with h4 | ⟨p, hv, w⟩
        · cases h4 with
          | obj h8 h9 h10 => exact ⟨_, _, _, rfl, ex _ _ h8, opd_same ex .bl h3 k⟩
        · obtain ⟨o, ho, c⟩ := w.con
          cases o with
          | ins C dx fs =>
            obtain ⟨rfl, h9, h10⟩ := c
            subst hv
            exact ⟨_, _, _, rfl, ho, opd_same ex .bl h3 k⟩
          | _ => exact c.elim
  · exact t.elim
/-- a type's name, a class's name, as values -/
theorem pd_ty {n : String} (h : PE X e (tC (.ty n))) : PD .rep X 0 e (dC (.ty n)) := pd_c h fun _ _ => .ty
theorem pd_cls {C : Addr} (h : PE X e (tC (.ref C))) : PD .rep X 0 e (dC (.cls C)) := pd_c h fun _ _ => .cls
end
end DL
set_option maxRecDepth 100000
set_option maxHeartbeats 2000000
/-! DL8: walks over enumerate and zip; list(range); methods; dicts; statements that change an owned object. -/
namespace DL
open PySem PySem.Spec PyProof.Rows L2 RZ
variable [TabC]

/-! ### enumerate, zip -/
def enumD (ds : List Dat) : List Dat := ds.mapIdx fun i d => .tup [.int (i : Nat), d]
theorem enumD_len (ds : List Dat) : (enumD ds).length = ds.length := by simp [enumD]
theorem enumD_get (ds : List Dat) (i : Nat) : (enumD ds)[i]? = ds[i]?.map fun d => .tup [.int (i : Nat), d] := by simp [enumD, List.getElem?_mapIdx]
def zipD (xs ys : List Dat) : List Dat := List.zipWith (fun a b => .tup [a, b]) xs ys
theorem zipD_len (xs ys : List Dat) : (zipD xs ys).length = min xs.length ys.length := by simp [zipD]
theorem zipD_get {xs ys : List Dat} {i : Nat} {x y : Dat} (h1 : xs[i]? = some x) (h2 : ys[i]? = some y) : (zipD xs ys)[i]? = some (.tup [x, y]) := by
  simp [zipD, List.getElem?_zipWith, h1, h2]
section
variable {X : Cx} {tg iter e a b t0 elt o : Expr} {es elts : List Expr} {pos tpos p p2 pp : Pos} {c c1 c2 c3 kk : Nat} {T Ta Tb Te : TD} {U : TAD} {m : Md}
def iEn (U : TAD) : TID := fun ε P => U ε fun ds => ∃ d xs, ds = [d] ∧ (d = .lst xs ∨ d = .tup xs) ∧ P (enumD xs)
theorem yd_pair {B : BB} {F : Hp} {vs : List V} {ds : List Dat} (r : Reps B F vs ds) {i : Nat} {H H' : Hp} {x : V} (y : YPair (fun i => some (.int (i : Nat))) (fun i => vs[i]?) i H x H') : YD true B F (enumD ds) i H x H' := by
  obtain ⟨T, a, b, h1, h2, h3, h4, h5⟩ := y
  cases h4
  obtain ⟨d, hd, rd⟩ := r.getV h5
  exact ⟨.tup [.int i, d], by rw [enumD_get, hd]; rfl, .inr ⟨rfl, T, _, _, h1, h2, h3, rfl, .cons .int (.cons rd .nil)⟩⟩
theorem pid_enum (hg : Gl X "enumerate") (hm : X.mg "enumerate" = none) (ha : PAD X c [e] U) (hs : starEach [e] X.env = [(false, eval e X.env)] := by rfl) : PID true X c (.Tuple elts kk tpos) (.Call (.Name "enumerate" p) [e] [] pos) (iEn U) :=
  pi_weak (pi_enumA hg hm ha (hs := hs)) fun σ H R ⟨A, B, F, ε, P, n, r, bx, hn, t, k⟩ =>
    ⟨A, B, F, ε, _, n, r, bx, hn, t, fun vs F' H' ds g q ⟨d, xs, e1, e2, p⟩ => by
      subst e1
      cases q with
      | cons q1 q2 =>
        cases q2
        rcases e2 with rfl | rfl
        · cases q1 with
          | @lst a vs xs h1 h2 =>
            refine ⟨a, vs, rfl, .inl ⟨SqL.of (g.sub _ _ h1), k _ F' H' _ g ?_ p⟩⟩
            unfold WalkD
            rw [enumD_len, ← h2.length]
            exact walk_enum.mono (fun H'' e => SqL.of (e _ _ h1)) fun i H'' x H3 hi hg y => yd_pair h2 y
        · cases q1 with
          | @tup a vs xs o h1 hd h2 =>
            refine ⟨a, vs, rfl, .inr ⟨KT.sq ⟨_, g.sub _ _ h1, hd⟩, k _ F' H' _ g ?_ p⟩⟩
            unfold WalkD
            rw [enumD_len, ← h2.length]
            exact walk_enumT.mono (fun H'' e => KT.sq ⟨_, e _ _ h1, hd⟩) fun i H'' x H3 hi hg y => yd_pair h2 y⟩
theorem walk_zipT {K : PySem.W.Frag} {a b : Addr} {xs ys : List V} {n : Nat} (hn : n = min xs.length ys.length) : Walk (ItzT K a b) n (fun H => SqT K H a xs ∧ SqT K H b ys) (YPair (fun i => xs[i]?) (fun i => ys[i]?)) := by
  subst hn
  refine ⟨fun i _ hi q => ?_, fun _ q => ⟨xs, ys, q.1, q.2, by omega⟩, fun i H v H' _ q y => ?_⟩
  · have h1 : i < xs.length := by omega
    have h2 : i < ys.length := by omega
    exact ⟨xs, ys, xs[i], ys[i], q.1, q.2, by simp [h1], by simp [h2]⟩
  · obtain ⟨T, x, z, h1, h2, h3, h4, h5⟩ := y
    exact ⟨T, x, z, h1, h2, h3, h4 xs q.1, h5 ys q.2⟩
def iZp (U : TAD) : TID := fun ε P => U ε fun ds => ∃ d d' xs ys, ds = [d, d'] ∧ ((d = .lst xs ∧ d' = .lst ys) ∨ (d = .tup xs ∧ d' = .tup ys)) ∧ P (zipD xs ys)
theorem yd_zip {B : BB} {F : Hp} {vs ws : List V} {ds es : List Dat} (r : Reps B F vs ds) (r' : Reps B F ws es) {i : Nat} {H H' : Hp} {x : V} (y : YPair (fun i => vs[i]?) (fun i => ws[i]?) i H x H') : YD true B F (zipD ds es) i H x H' := by
  obtain ⟨T, a, b, h1, h2, h3, h4, h5⟩ := y
  obtain ⟨d, hd, rd⟩ := r.getV h4
  obtain ⟨d', hd', rd'⟩ := r'.getV h5
  exact ⟨.tup [d, d'], zipD_get hd hd', .inr ⟨rfl, T, _, _, h1, h2, h3, rfl, .cons rd (.cons rd' .nil)⟩⟩
theorem pid_zip (hg : Gl X "zip") (hm : X.mg "zip" = none) (ha : PAD X c [a, b] U) (hs : starEach [a, b] X.env = (false, eval a X.env) :: starEach [b] X.env := by rfl) (hpl : (backTo pos (starEach [b] X.env)).any (·.1) = false := by rfl) :
    PID true X c (.Tuple elts kk tpos) (.Call (.Name "zip" p) [a, b] [] pos) (iZp U) :=
  pi_weak (pi_zipA hg hm ha (hs := hs) (hpl := hpl)) fun σ H R ⟨A, B, F, ε, P, n, r, bx, hn, t, k⟩ =>
    ⟨A, B, F, ε, _, n, r, bx, hn, t, fun vs F' H' ds g q ⟨d, d', xs, ys, e1, e2, p⟩ => by
      subst e1
      cases q with
      | cons q1 q2 =>
        cases q2 with
        | cons q2 q3 =>
          cases q3
          rcases e2 with ⟨rfl, rfl⟩ | ⟨rfl, rfl⟩
          · cases q1 with
            | @lst a vs xs h1 h2 =>
              cases q2 with
              | @lst b ws ys h3 h4 =>
                refine ⟨a, b, vs, ws, rfl, .inl ⟨SqL.of (g.sub _ _ h1), SqL.of (g.sub _ _ h3), k _ F' H' _ g ?_ p⟩⟩
                unfold WalkD
                rw [zipD_len, ← h2.length, ← h4.length]
                exact (walk_zip rfl).mono (fun H'' e => ⟨SqL.of (e _ _ h1), SqL.of (e _ _ h3)⟩) fun i H'' x H3 hi hg y => yd_zip h2 h4 y
          · cases q1 with
            | @tup a vs xs o h1 hd h2 =>
              cases q2 with
              | @tup b ws ys o' h3 hd' h4 =>
                refine ⟨a, b, vs, ws, rfl, .inr ⟨KT.sq ⟨_, g.sub _ _ h1, hd⟩, KT.sq ⟨_, g.sub _ _ h3, hd'⟩, k _ F' H' _ g ?_ p⟩⟩
                unfold WalkD
                rw [zipD_len, ← h2.length, ← h4.length]
                exact (walk_zipT rfl).mono (fun H'' e => ⟨KT.sq ⟨_, e _ _ h1, hd⟩, KT.sq ⟨_, e _ _ h3, hd'⟩⟩) fun i H'' x H3 hi hg y => yd_zip h2 h4 y⟩

/-! ### list(range(n)), list(range(a, b)) -/
theorem rg_reps {B : BB} {F : Hp} {lo : Int} {n : Nat} : Reps B F ((List.range n).map fun i => V.int (lo + (i : Nat))) (rngD lo n) := by
  unfold rngD
  generalize List.range n = l
  induction l with
  | nil => exact .nil
  | cons x l ih => exact .cons .int ih
def dLr1 (T : TD) : TD := fun ε P => T ε fun d => ∃ j : Int, d = .int j ∧ j ≤ 10000 ∧ -10000 ≤ j ∧ P (.lst (rngD 0 j.toNat))
def dLr2 (Ta Tb : TD) : TD := fun ε P => Ta ε fun d => Tb ε fun e => ∃ i j : Int, d = .int i ∧ e = .int j ∧ i ≤ 10000 ∧ -10000 ≤ i ∧ j ≤ 10000 ∧ -10000 ≤ j ∧ P (.lst (rngD i (j - i).toNat))
theorem res_own {A : Addr → Prop} {B : BB} {F F' H H' : Hp} {σ : L2.St} {ε : Ev} {c : Nat} {q : Addr} {o : HO} {d : Dat} (r : Rs A B F H σ ε) (g : Gr NoA B c F H F' H') (hq : H' q = none) (hc : Cont B F' o d) : Gr NoA B c F H F' (upd H' q o) ∧ Res .fr B H F' (upd H' q o) (.ref q) d := by
  have r' := r.gr g
  refine ⟨(g.trans (Gr.alloc0 r'.ex hq) : Gr NoA B (c + 0) F H F' (upd H' q o)), q, rfl, ⟨r'.ex.back hq, fun e => ?_, o, upd_same, hc⟩, g.free hq⟩
  obtain ⟨_, _, o, ho⟩ := r'.bx q e
  rw [hq] at ho
  cases ho
theorem pd_lrange1 (hc : X.calm = true) (hg : Gl X "list") (hm : X.mg "list" = none) (hg2 : Gl X "range") (hm2 : X.mg "range" = none) (h : PD .rep X c a T) (na : starEach [.Call (.Name "range" p2) [a] [] pp] X.env = (false, eval (.Call (.Name "range" p2) [a] [] pp) X.env) :: starEach [] X.env := by rfl)
    (na2 : starEach [a] X.env = (false, eval a X.env) :: starEach [] X.env := by rfl) : PD .fr X c (.Call (.Name "list" p) [.Call (.Name "range" p2) [a] [] pp] [] pos) (dLr1 T) :=
  pe_weak (pe_listRg hc hg hm (prg_1 hg2 hm2 h (na := na2)) (na := na)) fun σ H Q ⟨A, B, F, ε, P, n, r, bx, hn, t, k⟩ =>
    ⟨A, B, F, ε, _, n, r, bx, hn, t, fun v F' H' d g q ⟨j, e1, h1, h2, p⟩ => by
      subst e1
      cases q
      refine ⟨j, rfl, ⟨by omega, by omega, by omega, by omega, by omega⟩, fun q hq => ?_⟩
      have hr := rg_reps (B := B) (F := F') (lo := 0) (n := j.toNat)
      obtain ⟨g2, q2⟩ := res_own (o := .lst (rgV 0 j)) (d := .lst (rngD 0 j.toNat)) r g hq (by unfold rgV; rw [Int.sub_zero]; exact hr)
      exact k _ F' _ _ g2 q2 p⟩
theorem pd_lrange2 (hc : X.calm = true) (hg : Gl X "list") (hm : X.mg "list" = none) (hg2 : Gl X "range") (hm2 : X.mg "range" = none) (h : PD .rep X c1 a Ta) (h2 : PD .rep X c2 b Tb) (na : starEach [.Call (.Name "range" p2) [a, b] [] pp] X.env = (false, eval (.Call (.Name "range" p2) [a, b] [] pp) X.env) :: starEach [] X.env := by rfl)
    (na2 : starEach [a, b] X.env = (false, eval a X.env) :: starEach [b] X.env := by rfl) (nb2 : starEach [b] X.env = (false, eval b X.env) :: starEach [] X.env := by rfl) (hp : (backTo pp (starEach [b] X.env)).any (·.1) = false := by rfl) :
    PD .fr X (c1 + c2) (.Call (.Name "list" p) [.Call (.Name "range" p2) [a, b] [] pp] [] pos) (dLr2 Ta Tb) :=
  pe_weak (pe_listRg hc hg hm (prg_2 hg2 hm2 h h2 (na := na2) (nb := nb2) (hp := hp)) (na := na)) fun σ H Q ⟨A, B, F, ε, P, n, r, bx, hn, t, k⟩ =>
    ⟨A, B, F, ε, _, n, r, bx, by omega, t, fun v F1 H1 d g1 q1 t1 => ⟨A, B, F1, ε, _, n + c1, r.gr g1, g1.box n bx, by omega, t1, fun w F' H' e g2 q ⟨i, j, e1, e2, h1, h2, h3, h4, p⟩ => by
      subst e1 e2
      cases q1
      cases q
      refine ⟨i, j, rfl, rfl, ⟨by omega, by omega, by omega, by omega, by omega⟩, fun q hq => ?_⟩
      have hr := rg_reps (B := B) (F := F') (lo := i) (n := (j - i).toNat)
      obtain ⟨g3, q2⟩ := res_own (o := .lst (rgV i j)) (d := .lst (rngD i (j - i).toNat)) r (g1.trans g2) hq hr
      exact k _ F' _ _ g3 q2 p⟩⟩

/-- a wish on a list of one -/
def at1 (f : Dat → Prop) : List Dat → Prop
  | [y] => f y
  | _ => False
theorem at1_inv {f : Dat → Prop} : ∀ {es : List Dat}, at1 f es → ∃ y, es = [y] ∧ f y
  | [y], h => ⟨y, rfl, h⟩
  | [], h => h.elim
  | _ :: _ :: _, h => h.elim
/-! ### t.index(x), l.index(x) -/
def dTIx (To Te : TD) : TD := fun ε P => To ε fun d => ∃ xs, d = .tup xs ∧ Te ε fun y => ∃ j z, flatD y = true ∧ xs.all flatD = true ∧ xs[j]? = some z ∧ eqD z y = true ∧ (∀ m z', m < j → xs[m]? = some z' → eqD z' y = false) ∧ P (.int (j : Nat))
def dLIx (To Te : TD) : TD := fun ε P => To ε fun d => ∃ xs, d = .lst xs ∧ Te ε fun y => ∃ j z, pl 20 y = true ∧ pl 20 d = true ∧ xs[j]? = some z ∧ eqD z y = true ∧ (∀ m z', m < j → xs[m]? = some z' → eqD z' y = false) ∧ P (.int (j : Nat))
theorem tindex_type : typeOf (.builtin "tuple.index") = pure (.type "method_descriptor") := by rfl
theorem lindex_type : typeOf (.builtin "list.index") = pure (.type "method_descriptor") := by rfl
theorem pd_tindex {apos cpos : Pos} (ho : PD .rep X c1 o Ta) (he : PD .rep X c2 e Te)
    (hbase : attributeBase o "index" X.env (eval o X.env) = eval o X.env := by rfl)
    (hfew : ((backTo cpos (starEach [e] X.env)).all (fun x => !x.1) && (backToKw cpos (keywordEach [] X.env)).all (fun x => x.1.isSome)
      && decide ([e].length + ([] : List Keyword).length + (if ([] : List Keyword).isEmpty then 0 else 1) < 30)) = true := by rfl)
    (hline : (apos.endLine == cpos.line) = true := by rfl) (hs : starEach [e] X.env = (false, eval e X.env) :: starEach [] X.env := by rfl) (hplain : (backTo cpos (starEach [] X.env)).any (·.1) = false := by rfl) :
    PD .rep X (c1 + c2) (.Call (.Attribute o "index" apos) [e] [] cpos) (dTIx Ta Te) :=
  pe_weak (pe_km PySem.F.plainAttrs_tuple PySem.F.slot_tuple_index tindex_type mt_tindex ho (pad_cons he pad_nil hs) hbase hfew hline hs hplain) fun σ H Q ⟨A, B, F, ε, P, n, r, bx, hn, t, k⟩ =>
    ⟨A, B, F, ε, _, n, r, bx, by omega, t, fun v F1 H1 d g1 q1 ⟨xs, e1, t1⟩ => by
      subst e1
      cases q1 with
      | @tup a vs xs ob h1 hd h2 =>
        refine ⟨⟨a, vs, rfl, ob, g1.sub _ _ h1, hd⟩, A, B, F1, ε, at1 _, n + c1, r.gr g1, g1.box n bx, by omega, t1, fun ws F2 H2 es g2 q2 p => ?_⟩
        obtain ⟨y, rfl, p⟩ := at1_inv p
        cases q2 with
        | cons q3 q4 =>
          cases q4
          obtain ⟨j, z, f1, f2, h3, h4, h5, p⟩ := p
          have h2' := h2.mono g2.ex
          obtain ⟨zv, hz, rz⟩ := h2'.get h3
          refine ⟨a, vs, _, j, zv, rfl, rfl, KT.sq ⟨_, g2.sub _ _ (g2.ex _ _ h1), hd⟩, flat_rep q3 f1, flat_reps h2' f2, hz, ?_, fun m z' hm hz' => ?_, k _ F2 H2 _ (g1.trans g2) .int p⟩
          · rw [eqV_eqD rz q3 (List.all_eq_true.mp f2 z (List.mem_of_getElem? h3)) f1]
            exact h4
          · obtain ⟨d', hd', rd'⟩ := h2'.getV hz'
            rw [eqV_eqD rd' q3 (List.all_eq_true.mp f2 d' (List.mem_of_getElem? hd')) f1]
            exact h5 m d' hm hd'⟩
theorem pys_get {xs : List Dat} {j : Nat} : (pys xs)[j]? = xs[j]?.map py := by
  induction xs generalizing j with
  | nil => simp [pys]
  | cons x xs ih =>
    cases j with
    | zero => simp [pys]
    | succ j => simpa [pys] using ih
theorem pd_lindex {apos cpos : Pos} (hu : X.A.units + 65 < cLine) (ho : PD .sh X c1 o Ta) (he : PD .rep X c2 e Te)
    (hbase : attributeBase o "index" X.env (eval o X.env) = eval o X.env := by rfl)
    (hfew : ((backTo cpos (starEach [e] X.env)).all (fun x => !x.1) && (backToKw cpos (keywordEach [] X.env)).all (fun x => x.1.isSome)
      && decide ([e].length + ([] : List Keyword).length + (if ([] : List Keyword).isEmpty then 0 else 1) < 30)) = true := by rfl)
    (hline : (apos.endLine == cpos.line) = true := by rfl) (hs : starEach [e] X.env = (false, eval e X.env) :: starEach [] X.env := by rfl) (hplain : (backTo cpos (starEach [] X.env)).any (·.1) = false := by rfl) :
    PD .rep X (c1 + c2) (.Call (.Attribute o "index" apos) [e] [] cpos) (dLIx Ta Te) :=
  pe_weak (pe_bm PySem.F.plainAttrs_list PySem.F.slot_list_index lindex_type (mt_indexD hu) ho (pad_cons he pad_nil hs) hbase hfew hline hs hplain) fun σ H Q ⟨A, B, F, ε, P, n, r, bx, hn, t, k⟩ =>
    ⟨A, B, F, ε, _, n, r, bx, by omega, t, fun v F1 H1 d g1 q1 ⟨xs, e1, t1⟩ => by
      subst e1
      obtain ⟨a, vs, rfl, h1, h2⟩ := sh_lst g1.sub q1
      refine ⟨.inl ⟨rfl, vs, SqL.of h1⟩, A, B, F1, ε, at1 _, n + c1, r.gr g1, g1.box n bx, by omega, t1, fun ws F2 H2 es g2 q2 p => ?_⟩
      obtain ⟨y, rfl, p⟩ := at1_inv p
      cases q2 with
      | cons q3 q4 =>
        cases q4
        obtain ⟨j, z, f1, f2, h3, h4, h5, p⟩ := p
        have f2' : xs.all (pl 19) = true := f2
        have q5 := q1.gr g2
        have dpl := sh_dp (K := X.K) g2.sub q5 f2
        simp only [py] at dpl
        have sl := shaped_of f2 (by decide)
        simp only [py] at sl
        refine ⟨a, _, py _, pys xs, j, py z, rfl, rfl, dpl, dp_of g2.sub _ q3 f1, sl, shaped_of f1 (by decide), by rw [pys_get, h3]; rfl, ?_, fun m z' hm hz' => ?_, k _ F2 H2 _ (g1.trans g2) .int p⟩
        · rw [eqv_py z _ (List.all_eq_true.mp f2' z (List.mem_of_getElem? h3)) f1]
          exact h4
        · rw [pys_get] at hz'
          cases e0 : xs[m]? with
          | none => rw [e0] at hz'; cases hz'
          | some w =>
            rw [e0] at hz'
            cases hz'
            rw [eqv_py w _ (List.all_eq_true.mp f2' w (List.mem_of_getElem? e0)) f1]
            exact h5 m w hm e0⟩

/-! ### len(set(t)), all different -/
def dLS (T : TD) : TD := fun ε P => T ε fun d => ∃ xs ns, d = .tup xs ∧ intsD xs = some ns ∧ ns.Nodup ∧ ns.length ≤ 4000 ∧ P (.int (ns.length : Nat))
theorem pd_lenSet {q : Pos} (hg : Gl X "len") (hm : X.mg "len" = none) (hg2 : Gl X "set") (hm2 : X.mg "set" = none) (ha : PD .rep X c a T) (hc : X.calm = true) (na : starEach [a] X.env = (false, eval a X.env) :: starEach [] X.env := by rfl) :
    PD .rep X c (.Call (.Name "len" p) [.Call (.Name "set" p2) [a] [] q] [] pos) (dLS T) := pe_weak (pe_lenSetT hg hm hg2 hm2 ha hc (na := na)) fun σ H Q ⟨A, B, F, ε, P, n, r, bx, hn, t, k⟩ =>
  ⟨A, B, F, ε, _, n, r, bx, hn, t, fun v F1 H1 d g1 q1 ⟨xs, ns, e1, h1, h2, h3, p⟩ => by
    subst e1
    obtain ⟨l, rfl, h4⟩ := sh_tints (Hb := H) g1.sub (.inl q1) h1
    exact ⟨l, ns, rfl, h4.sq, h2, h3, k _ F1 H1 _ g1 .int p⟩⟩

/-! ### { } -/
theorem pd_dnewK : PD .fr X 0 (.Dict [] [] pos) (dC (.dct [])) := pe_weak pe_dnewK fun σ H Q ⟨A, B, F, ε, P, n, r, bx, hn, t, k⟩ => fun q hq => by
  obtain ⟨g, q2⟩ := res_own (o := .dK []) (d := .dct []) r (Gr.refl r.ex) hq ⟨rfl, .nil⟩
  exact k _ F _ _ g q2 t
theorem pd_dnewT : PD .fr X 0 (.Dict [] [] pos) (dC (.dtt [])) := pe_weak pe_dnewT fun σ H Q ⟨A, B, F, ε, P, n, r, bx, hn, t, k⟩ => fun q hq => by
  obtain ⟨g, q2⟩ := res_own (o := .dT []) (d := .dtt []) r (Gr.refl r.ex) hq ⟨rfl, .nil⟩
  exact k _ F _ _ g q2 t
end
end DL
set_option maxRecDepth 100000
set_option maxHeartbeats 2000000
/-! DL9: lending an owned object, statements that change an owned object, more stores. -/
namespace DL
open PySem PySem.Spec PyProof.Rows L2 RZ
variable [TabC]

/-! ### lending an owned object to an expression -/
mutual
def noD : Dat → Bool
  | .dct _ => false
  | .dtt _ => false
  | .obj _ _ => false
  | .lst xs => noDs xs
  | .tup xs => noDs xs
  | _ => true
def noDs : List Dat → Bool
  | [] => true
  | x :: xs => noD x && noDs xs
end
/-- data without any object -/
def atomD : Dat → Bool
  | .non => true
  | .bl _ => true
  | .int _ => true
  | .str _ => true
  | _ => false
def del (F : Hp) (p : Addr) : Hp := fun a => if a = p then none else F a
theorem del_ne {F : Hp} {p a : Addr} (h : a ≠ p) : del F p a = F a := if_neg h
def isDct : HO → Prop
  | .dK _ => True
  | .dT _ => True
  | _ => False
mutual
theorem rep_del {B : BB} {F : Hp} {p : Addr} {o : HO} (hp : F p = some o) (ho : isDct o) : ∀ {v : V} {d : Dat}, Rep B F v d → noD d = true → Rep B (del F p) v d
  | _, _, .non, _ => .non
  | _, _, .bl, _ => .bl
  | _, _, .int, _ => .int
  | _, _, .str, _ => .str
  | _, _, .tup (p := q) h hd r, n => .tup (by rw [del_ne (fun e => by rw [e, hp] at h; cases h; exact ho)]; exact h) hd (reps_del hp ho r (by simpa only [noD] using n))
  | _, _, .lst (p := q) h r, n => .lst (by rw [del_ne (fun e => by rw [e, hp] at h; cases h; exact ho)]; exact h) (reps_del hp ho r (by simpa only [noD] using n))
  | _, _, .dct _ _ _, n => by simp [noD] at n
  | _, _, .dtt _ _ _, n => by simp [noD] at n
  | _, _, .obj _ _ _, n => by simp [noD] at n
  | _, _, .cell h, _ => .cell h
  | _, _, .ty, _ => .ty
  | _, _, .cls, _ => .cls
  | _, _, .rng (p := q) h, _ => .rng (by rw [del_ne (fun e => by rw [e, hp] at h; cases h; exact ho)]; exact h)
theorem reps_del {B : BB} {F : Hp} {p : Addr} {o : HO} (hp : F p = some o) (ho : isDct o) : ∀ {vs : List V} {ds : List Dat}, Reps B F vs ds → noDs ds = true → Reps B (del F p) vs ds
  | _, _, .nil, _ => .nil
  | _, _, .cons h r, n => by
    rw [noDs, Bool.and_eq_true] at n
    exact .cons (rep_del hp ho h n.1) (reps_del hp ho r n.2)
end
theorem atom_del {B : BB} {F F' : Hp} {v : V} {d : Dat} (h : Rep B F v d) (n : atomD d = true) : Rep B F' v d := by
  cases h <;> first | (simp [atomD] at n; done) | constructor
theorem Gr.back {B : BB} {c : Nat} {F H F' H' : Hp} {p : Addr} {o : HO} (g : Gr NoA B c (upd F p o) H F' H') (hF : F p = none) : Gr NoA B c F H (del F' p) H' where
  ex := fun a u h => by
    have : a ≠ p := ne_of_none h hF
    rw [del_ne this]
    exact g.ex a u (by rw [upd_ne this]; exact h)
  sub := fun a u h => by
    by_cases z : a = p
    · unfold del at h; rw [if_pos z] at h; cases h
    · rw [del_ne z] at h; exact g.sub a u h
  new := fun a u h => by
    by_cases z : a = p
    · unfold del at h; rw [if_pos z] at h; cases h
    · rw [del_ne z] at h
      rcases g.new a u h with y | y
      · rw [upd_ne z] at y; exact .inl y
      · exact .inr y
  keep := g.keep
  there := g.there
  box := g.box
section
variable {X : Cx} {e a b t0 : Expr} {es : List Expr} {pos p : Pos} {c c1 c2 c3 : Nat} {T Ta Tb Te : TD} {U : TAD} {m : Md} {Tt : TTD} {Ts : TSD}
/-- the owned thing at slot i, lent; the result is no object -/
def dBorA (i : Nat) (T : TD) : TD := fun ε P => ∃ d, ε[i]? = some (.own d) ∧ T (ε.set i (.val d)) fun d' => atomD d' = true ∧ P d'
theorem pd_borA (i : Nat) (h : PD .rep X c e T) : PD .rep X c e (dBorA i T) := pe_weak h fun σ H Q ⟨A, B, F, ε, P, n, r, bx, hn, ⟨d, hd, t⟩, k⟩ => by
  obtain ⟨p, o, hF, hB, hH, hc, r', g0⟩ := r.freezeAt hd
  exact ⟨A, B, upd F p o, _, _, n, r', bx, hn, t, fun v F' H' d' g q ⟨n1, q1⟩ => k v (del F' p) H' d' (g.back hF) (atom_del q n1) q1⟩
/-- .. a dict, lent; the result has no dict in it -/
def isDD : Dat → Bool
  | .dct _ => true
  | .dtt _ => true
  | _ => false
def dBorD (i : Nat) (T : TD) : TD := fun ε P => ∃ d, ε[i]? = some (.own d) ∧ isDD d = true ∧ T (ε.set i (.val d)) fun d' => noD d' = true ∧ P d'
theorem pd_borD (i : Nat) (h : PD .rep X c e T) : PD .rep X c e (dBorD i T) := pe_weak h fun σ H Q ⟨A, B, F, ε, P, n, r, bx, hn, ⟨d, hd, hk, t⟩, k⟩ => by
  obtain ⟨p, o, hF, hB, hH, hc, r', g0⟩ := r.freezeAt hd
  refine ⟨A, B, upd F p o, _, _, n, r', bx, hn, t, fun v F' H' d' g q ⟨n1, q1⟩ => k v (del F' p) H' d' (g.back hF) (rep_del (g.ex _ _ upd_same) ?_ q n1) q1⟩
  cases d <;> simp [isDD] at hk <;> cases o <;> first | exact hc.elim | trivial
/-- .. to a test -/
def tBor (i : Nat) (Tt : TTD) : TTD := fun ε P => ∃ d, ε[i]? = some (.own d) ∧ Tt (ε.set i (.val d)) P
theorem ptd_bor (i : Nat) (h : PTD X c e Tt) : PTD X c e (tBor i Tt) := pt_weak h fun σ H Q ⟨A, B, F, ε, P, n, r, bx, hn, ⟨d, hd, t⟩, k⟩ => by
  obtain ⟨p, o, hF, hB, hH, hc, r', g0⟩ := r.freezeAt hd
  exact ⟨A, B, upd F p o, _, _, n, r', bx, hn, t, fun b F' H' g q1 => k b (del F' p) H' (g.back hF) q1⟩

/-! ### stores through a target -/
def sAsgG (T : TD) (G : GD) : TSD := fun E ε => T ε fun d => G d ε E.nx
theorem sd_asgG {tg : Expr} {is : List Nat} {G : GD} (he : PD .rep X c e T) (hg : PGD false X is tg G) (hs : swapsWithSole [tg] e pos.line X.env = pure false := by rfl) (hw : swappedStores [tg] e X.env = pure none := by rfl)
    (h1 : (assignEach [tg] X.env).map (·.2) = [assign tg X.env] := by rfl) : SD X c (.Assign [tg] e pos) (sAsgG T G) := ps_weak (ps_asg he hg hs hw h1) fun D σ H ⟨A, B, F, ε, E, n, r, bx, hn, t, k1, _⟩ =>
  ⟨A, B, F, ε, _, n, r, bx, hn, t, fun v F' H' d g q t2 => ⟨A, B, F', ε, d, E.nx, r.gr g, .inl q, t2, fun σ' ε' rs _ z => k1 F' H' σ' ε' g.any rs z⟩⟩
def gUnlD (n : Nat) (Gs : GsD) : GD := fun d ε R => ∃ ds, d = .lst ds ∧ ds.length = n ∧ Gs ds ε R
theorem pgd_unl {is : List Nat} {Gs : GsD} {es : List Expr} {k n : Nat} (hc : X.calm = true) (h : PGsD X is es Gs) (hn : (assignEach es X.env).length = n := by rfl) (hst : (assignEach es X.env).findIdx? (·.1) = none := by rfl) : PGD false X is (.Tuple es k pos) (gUnlD n Gs) :=
  pg_weak (pg_unl hc h hn hst) fun v σ H Q ⟨A, B, F, ε, d, R, r, rd, ⟨ds, e, hl, t⟩, k⟩ => by
    subst e
    cases rd.strict with
    | lst h1 h2 => exact ⟨_, _, rfl, SqL.of (r.ex _ _ h1), h2.length.trans hl, A, B, F, ε, ds, R, r, h2, t, k⟩
/-- a, b, c = e1, e2, e3, the names local -/
theorem sd_par3 {i j l : Nat} {ms : List Md} {x y z : Str} {T : TAD} {px py pz pt : Pos} {kt k2 pt2} {a b c0 : Expr} {m1 m2 m3 : Md} (h : PMD [m1, m2, m3] X c [a, b, c0] T) (hm : noSh [m1, m2, m3] = true) (hc : X.calm = true) (hN : X.N.Nodup) (hi : X.N[i]? = some x) (hj : X.N[j]? = some y) (hl : X.N[l]? = some z) (hij : i ≠ j) (hil : i ≠ l) (hjl : j ≠ l)
    (hx : X.env.scope.names.lookup x = some .local) (hy : X.env.scope.names.lookup y = some .local) (hz : X.env.scope.names.lookup z = some .local)
    (hw : swappedStores [.Tuple [.Name x px, .Name y py, .Name z pz] kt pt] (.Tuple [a, b, c0] k2 pt2) X.env = pure (some [x, y, z])) (hs : swapsWithSole [.Tuple [.Name x px, .Name y py, .Name z pz] kt pt] (.Tuple [a, b, c0] k2 pt2) pos.line X.env = pure false := by rfl) :
    SD X c (.Assign [.Tuple [.Name x px, .Name y py, .Name z pz] kt pt] (.Tuple [a, b, c0] k2 pt2) pos) (sMul [i, j, l] [m1, m2, m3] T) :=
  ps_weak (ps_par3 hc hN hi hj hl hij hil hjl hx hy hz h hw hs) fun D σ H ⟨A, B, F, ε, E, n, r, bx, hn, t, k1, _⟩ => ⟨A, B, F, ε, _, n, r, bx, hn, t, fun vs F' H' ds g q p => by
    have := mul_end (is := [i, j, l]) hm r g q
    cases q with
    | cons q1 q2 q3 =>
      cases q3 with
      | cons q4 q5 q6 =>
        cases q6 with
        | cons q7 q8 q9 =>
          cases q9
          exact ⟨_, _, _, rfl, k1 F' H' _ _ g.any this p⟩⟩

/-! ### an owned list changes -/
theorem own_lst {A : Addr → Prop} {B : BB} {F H : Hp} {σ : L2.St} {ε : Ev} {i : Nat} {ds : List Dat} (r : Rs A B F H σ ε) (h : ε[i]? = some (.own (.lst ds))) : ∃ p vs, σ[i]? = some (some (.ref p)) ∧ H p = some (.lst vs) ∧ Reps B F vs ds := by
  obtain ⟨p, h1, h2, w⟩ := r.own i _ h
  obtain ⟨o, ho, hc⟩ := w.con
  cases o with
  | lst vs => exact ⟨p, vs, h1, ho, hc⟩
  | _ => exact hc.elim
theorem append_type : typeOf (.builtin "list.append") = pure (.type "method_descriptor") := by rfl
theorem extend_type : typeOf (.builtin "list.extend") = pure (.type "method_descriptor") := by rfl
theorem pop_type : typeOf (.builtin "list.pop") = pure (.type "method_descriptor") := by rfl
variable {i j : Nat} {x y : Str} {px py apos cpos bpos dpos : Pos}
def sApp (i : Nat) (T : TD) : TSD := fun E ε => T ε fun d => ∃ ds, ε[i]? = some (.own (.lst ds)) ∧ ds.length < 100000 ∧ E.nx (ε.set i (.own (.lst (ds ++ [d]))))
theorem set_len {B : BB} {F H : Hp} {A : Addr → Prop} {σ : L2.St} {ε : Ev} (r : Rs A B F H σ ε) {s : Sl} (h : ε[i]? = some s) : i < ε.length := (List.getElem?_eq_some_iff.mp h).1
/-- x.append(e) -/
theorem sd_app (hx : PE X (.Name x px) (tVar i)) (he : PD .rep X c e T)
    (hbase : attributeBase (.Name x px) "append" X.env (eval (.Name x px) X.env) = eval (.Name x px) X.env := by rfl)
    (hfew : ((backTo cpos (starEach [e] X.env)).all (fun x => !x.1) && (backToKw cpos (keywordEach [] X.env)).all (fun x => x.1.isSome)
      && decide ([e].length + ([] : List Keyword).length + (if ([] : List Keyword).isEmpty then 0 else 1) < 30)) = true := by rfl)
    (hline : (apos.endLine == cpos.line) = true := by rfl) (hs : starEach [e] X.env = (false, eval e X.env) :: starEach [] X.env := by rfl) (hplain : (backTo cpos (starEach [] X.env)).any (·.1) = false := by rfl)
    (hsw : swapsWith (.Call (.Attribute (.Name x px) "append" apos) [e] [] cpos) none pos.line X.env = pure false := by rfl) :
    SD X c (.Expr (.Call (.Attribute (.Name x px) "append" apos) [e] [] cpos) pos) (fun E ε => (∃ ds, ε[i]? = some (.own (.lst ds))) ∧ sApp i T E ε) :=
  ps_weak (ps_expr (pe_bm PySem.F.plainAttrs_list PySem.F.slot_list_append append_type mt_append hx (pad_cons he pad_nil hs) hbase hfew hline hs hplain) hsw) fun D σ H ⟨A, B, F, ε, E, n, r, bx, hn, ⟨⟨ds0, h0⟩, t⟩, k1, _⟩ => by
    obtain ⟨p0, vs0, hp, hH, _⟩ := own_lst r h0
    refine ⟨_, hp, .inl ⟨rfl, vs0, SqL.of hH⟩, A, B, F, ε, at1 _, n, r, bx, hn, t, fun ws F' H' es g q p => ?_⟩
    obtain ⟨d, rfl, ds, h1, hl, p⟩ := at1_inv p
    cases q with
    | cons q1 q2 =>
      cases q2
      have r' := r.gr g
      obtain ⟨p1, vs, h2, h3, h4⟩ := own_lst r' h1
      rw [hp] at h2
      cases h2
      obtain ⟨r2, g2⟩ := r'.write h1 hp (o := .lst (vs ++ [_])) (d' := .lst (ds ++ [d])) (h4.append (.cons q1 .nil))
      exact ⟨p0, vs, _, rfl, rfl, h3, by rw [h4.length]; exact sz5lt (by omega), k1 F' _ σ _ ((g.any.trans g2).mono (by omega)) r2 p⟩
def sExt (i : Nat) (T : TD) : TSD := fun E ε => (∃ ds, ε[i]? = some (.own (.lst ds))) ∧ T ε fun d => ∃ ds xs, ε[i]? = some (.own (.lst ds)) ∧ d = .lst xs ∧ ds.length + xs.length ≤ 100000 ∧ E.nx (ε.set i (.own (.lst (ds ++ xs))))
theorem sd_ext (hx : PE X (.Name x px) (tVar i)) (he : PD .rep X c e T)
    (hbase : attributeBase (.Name x px) "extend" X.env (eval (.Name x px) X.env) = eval (.Name x px) X.env := by rfl)
    (hfew : ((backTo cpos (starEach [e] X.env)).all (fun x => !x.1) && (backToKw cpos (keywordEach [] X.env)).all (fun x => x.1.isSome)
      && decide ([e].length + ([] : List Keyword).length + (if ([] : List Keyword).isEmpty then 0 else 1) < 30)) = true := by rfl)
    (hline : (apos.endLine == cpos.line) = true := by rfl) (hs : starEach [e] X.env = (false, eval e X.env) :: starEach [] X.env := by rfl) (hplain : (backTo cpos (starEach [] X.env)).any (·.1) = false := by rfl)
    (hsw : swapsWith (.Call (.Attribute (.Name x px) "extend" apos) [e] [] cpos) none pos.line X.env = pure false := by rfl) :
    SD X c (.Expr (.Call (.Attribute (.Name x px) "extend" apos) [e] [] cpos) pos) (sExt i T) :=
  ps_weak (ps_expr (pe_bm PySem.F.plainAttrs_list PySem.F.slot_list_extend extend_type mt_extend hx (pad_cons he pad_nil hs) hbase hfew hline hs hplain) hsw) fun D σ H ⟨A, B, F, ε, E, n, r, bx, hn, ⟨⟨ds0, h0⟩, t⟩, k1, _⟩ => by
    obtain ⟨p0, vs0, hp, hH, _⟩ := own_lst r h0
    refine ⟨_, hp, .inl ⟨rfl, vs0, SqL.of hH⟩, A, B, F, ε, at1 _, n, r, bx, hn, t, fun ws F' H' es g q p => ?_⟩
    obtain ⟨d, rfl, ds, xs, h1, rfl, hl, p⟩ := at1_inv p
    cases q with
    | cons q1 q2 =>
      cases q2
      cases q1 with
      | @lst a zs _ h5 h6 =>
        have r' := r.gr g
        obtain ⟨p1, vs, h2, h3, h4⟩ := own_lst r' h1
        rw [hp] at h2
        cases h2
        obtain ⟨r2, g2⟩ := r'.write h1 hp (o := .lst (vs ++ zs)) (d' := .lst (ds ++ xs)) (h4.append h6)
        exact ⟨p0, a, vs, zs, rfl, rfl, h3, g.sub _ _ h5, by rw [h4.length, h6.length]; exact sz5 hl, k1 F' _ σ _ ((g.any.trans g2).mono (by omega)) r2 p⟩
/-- y = x.pop() -/
def sPop (i j : Nat) : TSD := fun E ε => ∃ ds d, ε[j]? = some (.own (.lst (ds ++ [d]))) ∧ E.nx ((ε.set j (.own (.lst ds))).set i (.val d))
theorem sd_pop (hx : PE X (.Name x px) (tVar j)) (hN : X.N.Nodup) (hi : X.N[i]? = some y) (hy : Loc X.env.scope y)
    (hbase : attributeBase (.Name x px) "pop" X.env (eval (.Name x px) X.env) = eval (.Name x px) X.env := by rfl) (hline : (apos.endLine == cpos.line) = true := by rfl)
    (hs : swapsWith (.Call (.Attribute (.Name x px) "pop" apos) [] [] cpos) (some (.Name y py)) pos.line X.env = pure false := by rfl)
    (hf : X.fn y = true ∨ X.env.scope.names.lookup y = some .local := by first | exact .inl rfl | exact .inr rfl | assumption) :
    SD X 0 (.Assign [.Name y py] (.Call (.Attribute (.Name x px) "pop" apos) [] [] cpos) pos) (sPop i j) :=
  ps_weak (ps_set hN hi hy (pe_bm0 PySem.F.plainAttrs_list PySem.F.slot_list_pop pop_type mt_pop hx hbase hline) hs hf) fun D σ H ⟨A, B, F, ε, E, n, r, bx, hn, ⟨ds, d, h0, t⟩, k1, _⟩ => by
    obtain ⟨p0, vs, hp, hH, hr⟩ := own_lst r h0
    have hl := hr.length
    have hd : (ds ++ [d])[vs.length - 1]? = some d := by rw [hl]; simp
    obtain ⟨v, hv, rv⟩ := hr.get hd
    have h4 : Reps B F vs.dropLast ds := by
      have := hr.dropLast
      rwa [List.dropLast_concat] at this
    obtain ⟨r2, g2⟩ := r.write h0 hp (o := .lst vs.dropLast) (d' := .lst ds) h4
    exact ⟨_, hp, .inl ⟨rfl, vs, SqL.of hH⟩, p0, vs, v, rfl, rfl, hH, hv, k1 F _ _ _ (g2.mono (by omega)) (r2.setVal rv) t⟩
/-- y.append(x.pop(e)) -/
def sAppPop (i j : Nat) (T : TD) : TSD := fun E ε => ∃ ys xs, i ≠ j ∧ ε[i]? = some (.own (.lst ys)) ∧ ε[j]? = some (.own (.lst xs)) ∧ T ε fun d => ∃ (k : Nat) (z : Dat), d = .int (k : Int) ∧ k < 2 ^ 62 ∧ xs[k]? = some z ∧ ys.length < 100000 ∧ E.nx ((ε.set j (.own (.lst (xs.eraseIdx k)))).set i (.own (.lst (ys ++ [z]))))
theorem sd_appPop (hy : PE X (.Name y py) (tVar i)) (hx : PE X (.Name x px) (tVar j)) (he : PD .rep X c e T)
    (hb1 : attributeBase (.Name x px) "pop" X.env (eval (.Name x px) X.env) = eval (.Name x px) X.env := by rfl)
    (hf1 : ((backTo dpos (starEach [e] X.env)).all (fun x => !x.1) && (backToKw dpos (keywordEach [] X.env)).all (fun x => x.1.isSome)
      && decide ([e].length + ([] : List Keyword).length + (if ([] : List Keyword).isEmpty then 0 else 1) < 30)) = true := by rfl)
    (hl1 : (bpos.endLine == dpos.line) = true := by rfl) (hs1 : starEach [e] X.env = (false, eval e X.env) :: starEach [] X.env := by rfl) (hp1 : (backTo dpos (starEach [] X.env)).any (·.1) = false := by rfl)
    (hbase : attributeBase (.Name y py) "append" X.env (eval (.Name y py) X.env) = eval (.Name y py) X.env := by rfl)
    (hfew : ((backTo cpos (starEach [.Call (.Attribute (.Name x px) "pop" bpos) [e] [] dpos] X.env)).all (fun x => !x.1) && (backToKw cpos (keywordEach [] X.env)).all (fun x => x.1.isSome)
      && decide (([.Call (.Attribute (.Name x px) "pop" bpos) [e] [] dpos] : List Expr).length + ([] : List Keyword).length + (if ([] : List Keyword).isEmpty then 0 else 1) < 30)) = true := by rfl)
    (hline : (apos.endLine == cpos.line) = true := by rfl) (hs : starEach [.Call (.Attribute (.Name x px) "pop" bpos) [e] [] dpos] X.env = (false, eval (.Call (.Attribute (.Name x px) "pop" bpos) [e] [] dpos) X.env) :: starEach [] X.env := by rfl) (hplain : (backTo cpos (starEach [] X.env)).any (·.1) = false := by rfl)
    (hsw : swapsWith (.Call (.Attribute (.Name y py) "append" apos) [.Call (.Attribute (.Name x px) "pop" bpos) [e] [] dpos] [] cpos) none pos.line X.env = pure false := by rfl) :
    SD X c (.Expr (.Call (.Attribute (.Name y py) "append" apos) [.Call (.Attribute (.Name x px) "pop" bpos) [e] [] dpos] [] cpos) pos) (sAppPop i j T) :=
  ps_weak (ps_expr (pe_bm PySem.F.plainAttrs_list PySem.F.slot_list_append append_type mt_append hy (pa_cons (pe_bm PySem.F.plainAttrs_list PySem.F.slot_list_pop pop_type mt_popAt hx (pad_cons he pad_nil hs1) hb1 hf1 hl1 hs1 hp1) pa_nil hs) hbase hfew hline hs hplain) hsw) fun D σ H ⟨A, B, F, ε, E, n, r, bx, hn, ⟨ys, xs, hij, hi, hj, t⟩, k1, _⟩ => by
    obtain ⟨p0, vs0, hp, hH, _⟩ := own_lst r hi
    obtain ⟨p1, ws0, hp1', hH1, _⟩ := own_lst r hj
    refine ⟨_, hp, .inl ⟨rfl, vs0, SqL.of hH⟩, _, hp1', .inl ⟨rfl, ws0, SqL.of hH1⟩, A, B, F, ε, at1 _, n, r, bx, hn, t, fun us F' H' es g q p => ?_⟩
    obtain ⟨d, rfl, k, z, rfl, hk, hz, hl, p⟩ := at1_inv p
    cases q with
    | cons q1 q2 =>
      cases q2
      cases q1
      have r' := r.gr g
      obtain ⟨p2, ws, h2, h3, h4⟩ := own_lst r' hj
      rw [hp1'] at h2
      cases h2
      obtain ⟨zv, hzv, rz⟩ := h4.get hz
      have hkl : k < ws.length := (List.getElem?_eq_some_iff.mp hzv).1
      obtain ⟨r2, g2⟩ := r'.write hj hp1' (o := .lst (ws.eraseIdx k)) (d' := .lst (xs.eraseIdx k)) (h4.eraseIdx k)
      have hi2 : (ε.set j (.own (.lst (xs.eraseIdx k))))[i]? = some (.own (.lst ys)) := by
        rw [List.getElem?_set_ne (Ne.symm hij)]
        exact hi
      obtain ⟨p3, vs, h5, h6, h7⟩ := own_lst r2 hi2
      rw [hp] at h5
      cases h5
      obtain ⟨r3, g3⟩ := r2.write hi2 hp (o := .lst (vs ++ [zv])) (d' := .lst (ys ++ [z])) (h7.append (.cons rz .nil))
      exact ⟨p1, ws, (k : Int), k, zv, rfl, rfl, h3, by omega, by omega, by rw [seqIndex_of (by omega) (by omega)]; simp, hzv, p0, vs, zv, rfl, rfl, h6, by rw [h7.length]; exact sz5lt (by omega), k1 F' _ σ _ (((g.any.trans g2).trans g3).mono (by omega)) r3 p⟩

/-! ### x[i] = e, x[i] += e of an owned list -/
def sSetL (i : Nat) (Ti Te : TD) : TSD := fun E ε => Te ε fun z => (∃ ds, ε[i]? = some (.own (.lst ds))) ∧ Ti ε fun d => ∃ ds k j, ε[i]? = some (.own (.lst ds)) ∧ d = .int k ∧ ixN ds.length k = some j ∧ E.nx (ε.set i (.own (.lst (ds.set j z))))
theorem sd_setL {ie : Expr} {tpos : Pos} {Ti : TD} (hx : PE X (.Name x px) (tVar i)) (hi : PD .rep X c1 ie Ti) (he : PD .rep X c2 e Te)
    (ha : ∀ v, assign (.Subscript (.Name x px) ie tpos) X.env v = (do
      let ov ← holding [v] (eval (.Name x px) X.env)
      let iv ← holding [v, ov] (eval ie X.env)
      standAt tpos
      holding [v, ov, iv] (setItem ov iv v)
      release [v, ov, iv] []) := by intro _; rfl)
    (hs : swapsWithSole [.Subscript (.Name x px) ie tpos] e pos.line X.env = pure false := by rfl) (hw : swappedStores [.Subscript (.Name x px) ie tpos] e X.env = pure none := by rfl)
    (h1 : (assignEach [.Subscript (.Name x px) ie tpos] X.env).map (·.2) = [assign (.Subscript (.Name x px) ie tpos) X.env] := by rfl) : SD X (c2 + c1) (.Assign [.Subscript (.Name x px) ie tpos] e pos) (sSetL i Ti Te) :=
  ps_weak (ps_asg he (pg_sub hx hi set_list ha) hs hw h1) fun D σ H ⟨A, B, F, ε, E, n, r, bx, hn, t, k1, _⟩ =>
    ⟨A, B, F, ε, _, n, r, bx, by omega, t, fun v F1 H1 z g1 q1 ⟨⟨ds0, h0⟩, t1⟩ => by
      have r1 := r.gr g1
      obtain ⟨p0, vs0, hp, hH, _⟩ := own_lst r1 h0
      refine ⟨_, hp, A, B, F1, ε, _, n + c2, r1, g1.box n bx, by omega, t1, fun iv F2 H2 d g2 q2 ⟨ds, k, j, h2, e2, h3, p⟩ => ?_⟩
      subst e2
      cases q2
      have r2 := r1.gr g2
      obtain ⟨p1, vs, h4, h5, h6⟩ := own_lst r2 h2
      rw [hp] at h4
      cases h4
      obtain ⟨r3, g3⟩ := r2.write h2 hp (o := .lst (vs.set j v)) (d' := .lst (ds.set j z)) (Reps.set (q1.mono g2.ex) j h6)
      exact ⟨p0, vs, k, j, rfl, rfl, h5, by rw [h6.length]; exact h3, k1 F2 _ σ _ (((g1.trans g2).any.trans g3).mono (by omega)) r3 p⟩⟩
/-- o[i] of a list, by values -/
theorem get_list : PGet X (fun o i H Q => ∃ a xs k v, o = .ref a ∧ i = .int k ∧ 0 ≤ k ∧ SqL X.K H a xs ∧ atI xs k = some v ∧ Q v H) := by
  intro pins s σ H o i ov iv Q I ro ri h
  obtain ⟨a, xs, k, v, rfl, rfl, h0, hx, hk, q⟩ := h
  cases ro
  obtain ⟨t, rfl⟩ := ri
  obtain ⟨its, r, pl, hz⟩ := I.list hx
  obtain ⟨j, h1, h2, h3, h4, h5⟩ := atI_get hk
  obtain ⟨u, hu, ru⟩ := r.get h2
  have hn := line63
  have hj : k.toNat = j := by
    rw [seqIndex_of h0 h5] at h1
    exact Option.some.inj h1
  exact wpAny_getItem_list pl.isList h0 (by omega) (by rw [hj]; simpa using hu) ⟨v, H, I, ru, q⟩
def sAugL (i : Nat) (Ti Te : TD) : TSD := fun E ε => (∃ ds, ε[i]? = some (.own (.lst ds))) ∧ Ti ε fun d => ∃ (ds : List Dat) (k : Nat) (a : Int), ε[i]? = some (.own (.lst ds)) ∧ d = .int (k : Int) ∧ ds[k]? = some (.int a) ∧ Te ε fun z => ∃ b : Int, z = .int b ∧ E.nx (ε.set i (.own (.lst (ds.set k (.int (a + b))))))
theorem sd_augL {ie : Expr} {tpos : Pos} {Ti : TD} (hx : PE X (.Name x px) (tVar i)) (hi : PD .rep X c1 ie Ti) (he : PD .rep X c2 e Te)
    (ha : ∀ ov iv new, augStore ie ov iv new = (do holding [new, ov, iv] (setItem ov iv new); release [new, ov, iv] []; pure .next) := by intros; rfl) : SD X (c1 + c2) (.AugAssign (.Subscript (.Name x px) ie tpos) .Add e pos) (sAugL i Ti Te) :=
  ps_weak (ps_augS hx hi get_list he ip_add set_list ha) fun D σ H ⟨A, B, F, ε, E, n, r, bx, hn, ⟨⟨ds0, h0⟩, t⟩, k1, _⟩ => by
    obtain ⟨p0, vs0, hp, hH, _⟩ := own_lst r h0
    refine ⟨_, hp, A, B, F, ε, _, n, r, bx, by omega, t, fun iv F1 H1 d g1 q1 ⟨ds, k, a, h1, e1, h2, t1⟩ => ?_⟩
    subst e1
    cases q1
    have r1 := r.gr g1
    obtain ⟨p1, vs, h4, h5, h6⟩ := own_lst r1 h1
    rw [hp] at h4
    cases h4
    obtain ⟨v, hv, rv⟩ := h6.get h2
    cases rv
    refine ⟨p0, vs, (k : Int), .int a, rfl, rfl, by omega, SqL.of h5, atI_nat hv, A, B, F1, ε, _, n + c1, r1, g1.box n bx, by omega, t1, fun ev F2 H2 z g2 q2 ⟨b, e2, p⟩ => ?_⟩
    subst e2
    cases q2
    have r2 := r1.gr g2
    obtain ⟨p2, ws, h7, h8, h9⟩ := own_lst r2 h1
    rw [hp] at h7
    cases h7
    obtain ⟨r3, g3⟩ := r2.write h1 hp (o := .lst (ws.set k (.int (a + b)))) (d' := .lst (ds.set k (.int (a + b)))) (Reps.set .int k h9)
    have hkl : k < ws.length := by
      rw [h9.length]
      exact (List.getElem?_eq_some_iff.mp h2).1
    refine ⟨a, b, rfl, rfl, p0, ws, (k : Int), k, rfl, rfl, h8, ?_, k1 F2 _ σ _ (((g1.trans g2).any.trans g3).mono (by omega)) r3 p⟩
    unfold ixN
    rw [if_pos (by omega), if_pos (by omega)]
    simp
end
end DL
set_option maxRecDepth 100000
set_option maxHeartbeats 2000000
/-! DL10: dicts by data, a def's promise kept, __init__. -/
namespace DL
open PySem PySem.Spec PyProof.Rows L2 RZ
variable [TabC]

/-! ### d[k] = v, (a, b) in d -/
def putD {κ : Type} [DecidableEq κ] (ks : List (κ × Dat)) (k : κ) (d : Dat) : List (κ × Dat) :=
  if (ks.any fun kv => decide (kv.1 = k)) = true then ks.map (fun kv => if kv.1 = k then (kv.1, d) else kv) else ks ++ [(k, d)]
theorem any_key {κ : Type} [DecidableEq κ] {k : κ} : ∀ {vs : List (κ × V)} {ks : List (κ × Dat)}, vs.map (·.1) = ks.map (·.1) → (vs.any fun kv => decide (kv.1 = k)) = (ks.any fun kv => decide (kv.1 = k))
  | [], [], _ => rfl
  | [], _ :: _, h => by simp at h
  | _ :: _, [], h => by simp at h
  | v :: vs, d :: ks, h => by
    simp only [List.map_cons, List.cons.injEq] at h
    rw [List.any_cons, List.any_cons, any_key h.2, h.1]
theorem put_ok {κ : Type} [DecidableEq κ] {B : BB} {F : Hp} {k : κ} {v : V} {d : Dat} (r : Rep B F v d) : ∀ {vs : List (κ × V)} {ks : List (κ × Dat)}, vs.map (·.1) = ks.map (·.1) → Reps B F (vs.map (·.2)) (ks.map (·.2)) →
    (putK vs k v).map (·.1) = (putD ks k d).map (·.1) ∧ Reps B F ((putK vs k v).map (·.2)) ((putD ks k d).map (·.2)) := by
  intro vs ks h hr
  unfold putK putD
  rw [any_key h]
  split
  · rename_i hany
    clear hany
    induction vs generalizing ks with
    | nil =>
      cases ks with
      | nil => exact ⟨rfl, .nil⟩
      | cons _ _ => simp at h
    | cons a vs ih =>
      cases ks with
      | nil => simp at h
      | cons b ks =>
        simp only [List.map_cons, List.cons.injEq] at h
        simp only [List.map_cons] at hr
        cases hr with
        | cons h1 h2 =>
          obtain ⟨i1, i2⟩ := ih h.2 h2
          simp only [List.map_cons, List.cons.injEq]
          rw [h.1]
          by_cases e : b.1 = k
          · rw [if_pos e, if_pos e]
            exact ⟨⟨rfl, i1⟩, .cons r i2⟩
          · rw [if_neg e, if_neg e]
            exact ⟨⟨h.1, i1⟩, .cons h1 i2⟩
  · rw [List.map_append, List.map_append, List.map_append, List.map_append, h]
    exact ⟨rfl, hr.append (.cons r .nil)⟩
theorem own_dct {A : Addr → Prop} {B : BB} {F H : Hp} {σ : L2.St} {ε : Ev} {i : Nat} {ks : List (Key × Dat)} (r : Rs A B F H σ ε) (h : ε[i]? = some (.own (.dct ks))) : ∃ p vs, σ[i]? = some (some (.ref p)) ∧ H p = some (.dK vs) ∧ vs.map (·.1) = ks.map (·.1) ∧ Reps B F (vs.map (·.2)) (ks.map (·.2)) := by
  obtain ⟨p, h1, h2, w⟩ := r.own i _ h
  obtain ⟨o, ho, hc⟩ := w.con
  cases o with
  | dK vs => exact ⟨p, vs, h1, ho, hc.1, hc.2⟩
  | _ => exact hc.elim
theorem own_dtt {A : Addr → Prop} {B : BB} {F H : Hp} {σ : L2.St} {ε : Ev} {i : Nat} {ks : List (List Key × Dat)} (r : Rs A B F H σ ε) (h : ε[i]? = some (.own (.dtt ks))) : ∃ p vs, σ[i]? = some (some (.ref p)) ∧ H p = some (.dT vs) ∧ vs.map (·.1) = ks.map (·.1) ∧ Reps B F (vs.map (·.2)) (ks.map (·.2)) := by
  obtain ⟨p, h1, h2, w⟩ := r.own i _ h
  obtain ⟨o, ho, hc⟩ := w.con
  cases o with
  | dT vs => exact ⟨p, vs, h1, ho, hc.1, hc.2⟩
  | _ => exact hc.elim
section
variable {X : Cx} {e a b o : Expr} {es : List Expr} {pos p px tpos : Pos} {x : Str} {c c1 c2 c3 i kt : Nat} {T Ta Tb Te Ti : TD} {U : TAD} {m : Md}
def sPutK (i : Nat) (Ti Te : TD) : TSD := fun E ε => Te ε fun z => (∃ ks, ε[i]? = some (.own (.dct ks))) ∧ Ti ε fun d => ∃ ks k, ε[i]? = some (.own (.dct ks)) ∧ keyD d = some k ∧ ks.length < 100000 ∧ E.nx (ε.set i (.own (.dct (putD ks k z))))
theorem sd_putK {ie : Expr} (hu : X.A.units + 1 < cLine) (hx : PE X (.Name x px) (tVar i)) (hi : PD .rep X c1 ie Ti) (he : PD .rep X c2 e Te) (hs : swapsWith e (some (.Subscript (.Name x px) ie tpos)) pos.line X.env = pure false := by rfl) :
    SD X (c2 + c1) (.Assign [.Subscript (.Name x px) ie tpos] e pos) (sPutK i Ti Te) :=
  ps_weak (ps_dput hu hx hi he hs) fun D σ H ⟨A, B, F, ε, E, n, r, bx, hn, t, k1, _⟩ =>
    ⟨A, B, F, ε, _, n, r, bx, by omega, t, fun v F1 H1 z g1 q1 ⟨⟨ds0, h0⟩, t1⟩ => by
      have r1 := r.gr g1
      obtain ⟨p0, vs0, hp, hH, _⟩ := own_dct r1 h0
      refine ⟨_, hp, A, B, F1, ε, _, n + c2, r1, g1.box n bx, by omega, t1, fun iv F2 H2 d g2 q2 ⟨ks, k, h2, h3, h4, p⟩ => ?_⟩
      have r2 := r1.gr g2
      obtain ⟨p1, vs, h5, h6, h7, h8⟩ := own_dct r2 h2
      rw [hp] at h5
      cases h5
      have hk := keyD_rep q2 h3
      subst hk
      have := congrArg List.length h7
      rw [List.length_map, List.length_map] at this
      obtain ⟨i1, i2⟩ := put_ok (k := k) (Rep.mono g2.ex q1) h7 h8
      obtain ⟨r3, g3⟩ := r2.write h2 hp (o := .dK (putK vs k v)) (d' := .dct (putD ks k z)) ⟨i1, i2⟩
      exact ⟨p0, _, rfl, DPut.k h6 (sz5lt (by omega)), k1 F2 _ σ _ (((g1.trans g2).any.trans g3).mono (by omega)) r3 p⟩⟩
def sPutT (i : Nat) (Ui : TAD) (Te : TD) : TSD := fun E ε => Te ε fun z => (∃ ks, ε[i]? = some (.own (.dtt ks))) ∧ Ui ε fun ds => ∃ ks k, ε[i]? = some (.own (.dtt ks)) ∧ ds.mapM keyD = some k ∧ ds.length ≤ 1000 ∧ ks.length < 100000 ∧ E.nx (ε.set i (.own (.dtt (putD ks k z))))
theorem sd_putT {pt : Pos} (hu : X.A.units + 1 < cLine) (hx : PE X (.Name x px) (tVar i)) (hi : PAD X c1 es U) (he : PD .rep X c2 e Te) (hs : swapsWith e (some (.Subscript (.Name x px) (.Tuple es kt pt) tpos)) pos.line X.env = pure false := by rfl) :
    SD X (c2 + c1) (.Assign [.Subscript (.Name x px) (.Tuple es kt pt) tpos] e pos) (sPutT i U Te) :=
  ps_weak (ps_dput hu hx (pe_tup hi) he hs) fun D σ H ⟨A, B, F, ε, E, n, r, bx, hn, t, k1, _⟩ =>
    ⟨A, B, F, ε, _, n, r, bx, by omega, t, fun v F1 H1 z g1 q1 ⟨⟨ds0, h0⟩, t1⟩ => by
      have r1 := r.gr g1
      obtain ⟨p0, vs0, hp, hH, _⟩ := own_dtt r1 h0
      refine ⟨_, hp, A, B, F1, ε, _, n + c2, r1, g1.box n bx, by omega, t1, fun ws F2 H2 ds g2 q2 ⟨ks, k, h2, h3, h3', h4, p⟩ => ?_⟩
      refine ⟨by rw [q2.length]; exact sz5 (by omega), fun pt hpt => ?_⟩
      have g0 : Gr NoA B 0 F2 H2 F2 (upd H2 pt (.tup ws)) := Gr.alloc0 ((r1.gr g2).ex) hpt
      have r2 := (r1.gr g2).gr g0
      obtain ⟨p1, vs, h5, h6, h7, h8⟩ := own_dtt r2 h2
      rw [hp] at h5
      cases h5
      have hk := keysD_rep q2 h3
      subst hk
      have := congrArg List.length h7
      rw [List.length_map, List.length_map] at this
      obtain ⟨i1, i2⟩ := put_ok (k := k) (Rep.mono g2.ex q1) h7 h8
      obtain ⟨r3, g3⟩ := r2.write h2 hp (o := .dT (putK vs k v)) (d' := .dtt (putD ks k z)) ⟨i1, i2⟩
      exact ⟨p0, _, rfl, DPut.t h6 upd_same (sz5lt (by omega)), k1 F2 _ σ _ ((((g1.trans g2).trans g0).any.trans g3).mono (by omega)) r3 p⟩⟩
def dInT (neg : Bool) (U : TAD) (Td : TD) : TD := fun ε P => U ε fun ds => ∃ k, ds.mapM keyD = some k ∧ ds.length ≤ 1000 ∧ Td ε fun d => ∃ ks, d = .dtt ks ∧ P (.bl (neg != (lookD ks k).isSome))
theorem in_run {neg : Bool} {td : TE} (hd : td = lift .sh c2 Ta) : ∀ σ H Q, lift .rep (c1 + c2) (dInT neg U Ta) σ H Q → (tTup (liftA c1 U)) σ H fun y H1 => td σ H1 fun x H2 => ∃ a o, x = .ref a ∧ DGet H2 a y o ∧ Q (.bl (neg != o.isSome)) H2 := fun σ H Q ⟨A, B, F, ε, P, n, r, bx, hn, t, k⟩ => by
  subst hd
  refine ⟨A, B, F, ε, _, n, r, bx, by omega, t, fun ws F1 H1 ds g1 q1 ⟨kk, h1, h1', t1⟩ => ⟨by rw [q1.length]; exact sz5 (by omega), fun pt hpt => ?_⟩⟩
  have hk := keysD_rep q1 h1
  subst hk
  have g0 : Gr NoA B 0 F1 H1 F1 (upd H1 pt (.tup (kk.map kV))) := Gr.alloc0 ((r.gr g1).ex) hpt
  have g10 := g1.trans g0
  refine ⟨A, B, F1, ε, _, n + (c1 + 0), r.gr g10, g10.box n bx, by omega, t1, fun v F2 H2 d g2 q2 ⟨ks, e1, p⟩ => ?_⟩
  subst e1
  obtain ⟨a, vs, rfl, h3, h4, h5⟩ := sh_dtt g2.sub q2
  have hpB : ¬ B.has pt := fun e => by
    obtain ⟨_, _, o, ho⟩ := (r.gr g1).bx pt e
    rw [hpt] at ho
    cases ho
  refine ⟨a, _, rfl, DGet.t h3 (g2.keep pt _ upd_same hpB (fun z => z)), ?_⟩
  rw [look_isSome h4 h5]
  exact k _ F2 H2 _ ((g10.trans g2).mono (by omega)) .bl p
theorem pd_inT {pt : Pos} (hu : X.A.units + 1 < cLine) (hi : PAD X c1 es U) (ho : PD .sh X c2 o Ta) (h1 : behindInMarks .In o = false := by first | exact nobehind _ (by decide) (by decide) | rfl) : PD .rep X (c1 + c2) (.Compare (.Tuple es kt pt) [.In] [o] pos) (dInT false U Ta) :=
  pe_weak (pe_cmp (pc_din hu (pe_tup hi) ho) h1) fun σ H Q h => by
    have := in_run (neg := false) rfl σ H Q h
    simp only [Bool.false_bne] at this
    exact this
theorem pd_ninT {pt : Pos} (hu : X.A.units + 1 < cLine) (hi : PAD X c1 es U) (ho : PD .sh X c2 o Ta) (h1 : behindInMarks .NotIn o = false := by first | exact nobehind _ (by decide) (by decide) | rfl) : PD .rep X (c1 + c2) (.Compare (.Tuple es kt pt) [.NotIn] [o] pos) (dInT true U Ta) :=
  pe_weak (pe_cmp (pc_dnotin hu (pe_tup hi) ho) h1) fun σ H Q h => by
    have := in_run (neg := true) rfl σ H Q h
    simp only [Bool.true_bne] at this
    exact this
theorem ptd_ninT {pt : Pos} (hu : X.A.units + 1 < cLine) (hi : PAD X c1 es U) (ho : PD .sh X c2 o Ta) (h1 : behindInMarks .NotIn o = false := by first | exact nobehind _ (by decide) (by decide) | rfl) : PTD X (c1 + c2) (.Compare (.Tuple es kt pt) [.NotIn] [o] pos) (tV (dInT true U Ta)) :=
  pt_weak (pt_cmp (pc_dnotin hu (pe_tup hi) ho) h1) fun σ H Q ⟨A, B, F, ε, P, n, r, bx, hn, t, k⟩ => by
    have := in_run (neg := true) rfl σ H (fun y H1 => ∃ b, y = .bl b ∧ Q b H1) ⟨A, B, F, ε, _, n, r, bx, hn, t, fun v F' H' d g q ⟨b, e, p⟩ => by
      subst e
      cases q
      exact ⟨b, rfl, k b F' H' g p⟩⟩
    simp only [Bool.true_bne] at this
    exact this

/-! ### name op= int -/
def sAug (i : Nat) (Te : TD) (f : Int → Int → Int) : TSD := fun E ε => ∃ a, ε[i]? = some (.val (.int a)) ∧ Te ε fun z => ∃ b, z = .int b ∧ E.nx (ε.set i (.val (.int (f a b))))
theorem sd_aug {op : Operator} {f : Int → Int → Int} {pos' : Pos} (hN : X.N.Nodup) (hi : X.N[i]? = some x) (hx : Loc X.env.scope x) (he : PD .rep X c e Te) (ho : PIp X op (ipI f)) (hf : X.fn x = true ∨ X.env.scope.names.lookup x = some .local := by first | exact .inl rfl | exact .inr rfl | assumption) :
    SD X c (.AugAssign (.Name x pos') op e pos) (sAug i Te f) := ps_weak (ps_aug hN hi hx he ho hf) fun D σ H ⟨A, B, F, ε, E, n, r, bx, hn, ⟨a, h0, t⟩, k1, _⟩ => by
  obtain ⟨v, h1, h2⟩ := r.val i _ h0
  cases h2
  exact ⟨_, h1, A, B, F, ε, _, n, r, bx, hn, t, fun v F1 H1 z g q ⟨b, e1, p⟩ => by
    subst e1
    cases q
    exact ⟨a, b, rfl, rfl, k1 F1 H1 _ _ g.any ((r.gr g).setVal .int) p⟩⟩
end

/-! ### a def keeps its promise -/
def startD (N : List Str) (ds : List Dat) : Ev := ds.map .val ++ List.replicate (N.length - ds.length) .off
theorem start_val {B : BB} {F : Hp} : ∀ {vs : List V} {ds : List Dat}, Reps B F vs ds → ∀ (n i : Nat) (d : Dat), (ds.map Sl.val ++ List.replicate n .off)[i]? = some (.val d) → ∃ v, (vs.map some ++ List.replicate n none)[i]? = some (some v) ∧ Rep B F v d
  | _, _, .nil, n, i, d, h => by
    simp only [List.map_nil, List.nil_append, List.getElem?_replicate] at h
    split at h <;> cases h
  | _, _, .cons r t, n, 0, d, h => by
    simp only [List.map_cons, List.cons_append, List.getElem?_cons_zero, Option.some.injEq, Sl.val.injEq] at h
    subst h
    exact ⟨_, rfl, r⟩
  | _, _, .cons r t, n, i + 1, d, h => by
    simp only [List.map_cons, List.cons_append, List.getElem?_cons_succ] at h ⊢
    exact start_val t n i d h
theorem start_no (ds : List Dat) (n i : Nat) {s : Sl} (h : (ds.map Sl.val ++ List.replicate n .off)[i]? = some s) : s = .off ∨ ∃ d, s = .val d := by
  have := List.mem_of_getElem? h
  rw [List.mem_append] at this
  rcases this with h | h
  · obtain ⟨d, _, rfl⟩ := List.mem_map.mp h
    exact .inr ⟨d, rfl⟩
  · exact .inl (List.eq_of_mem_replicate h)
theorem rs_start {B : BB} {F H : Hp} {N : List Str} {vs : List V} {ds : List Dat} (ex : Ex F H) (bx : Bx B F H) (r : Reps B F vs ds) : Rs (fun a => H a = none) B F H (L2.start N vs) (startD N ds) where
  ex := ex
  len := by
    unfold startD L2.start
    simp [r.length]
  val := fun i d h => by
    unfold L2.start
    rw [r.length]
    exact start_val r _ i d h
  own := fun i d h => by
    rcases start_no _ _ _ h with e | ⟨_, e⟩ <;> cases e
  sep := fun i j d e p h => by
    rcases start_no _ _ _ h with e | ⟨_, e⟩ <;> cases e
  bx := fun b hb => by
    obtain ⟨h1, o, h2⟩ := bx b hb
    exact ⟨h1, fun e => (by rw [h2] at e; cases e), o, h2⟩
  new := fun a h => h
  raw := fun i v h => by
    rcases start_no _ _ _ h with e | ⟨_, e⟩ <;> cases e
theorem Gr.toNo {B : BB} {c : Nat} {F H F' H' : Hp} (g : Gr (fun a => H a = none) B c F H F' H') : Gr NoA B c F H F' H' where
  ex := g.ex
  sub := g.sub
  new := fun a o h => by
    rcases g.new a o h with z | z | z
    · exact .inl z
    · exact .inr (.inl z)
    · exact .inr (.inl z)
  keep := fun a o h nb _ => g.keep a o h nb fun z => by rw [h] at z; cases z
  there := g.there
  box := g.box
section
variable {P : Program} {w : World} {K : PySem.W.Frag} {mg : Str → Option Value} {base : Heap} {x qual : Str} {params : Arguments} {body : List Stmt} {scope : Scope} {f : Addr} {fd : FuncData}
theorem okD {N ps : List Str} {k c : Nat} {S : List Dat → (Dat → Prop) → Prop} (F : FunD K x qual params body scope [] [] f fd) (Sc : FnScope N ps scope) (len : ∀ ds Q, S ds Q → ds.length = ps.length)
    (hbody : ∀ (cdv : Value) (A : Around) (outer : List Env) (s : Shared) (H : Hp) (E : XK), Room k (A.deeper (envOfC qual scope s.heap.objs.size f cdv)) →
      ∃ T, SDs (cxOf CX0 P w K mg base N qual scope f cdv A outer s H E).nox c body T ∧ ∀ ds Q, S ds Q → T { nx := fun _ => Q .non, rt := Q } (startD N ds)) : FnOk P w K mg base CX0 (k + 1) f fd ps (spF c S) := by
  refine F.ok Sc (fun vs H Q E ⟨B, F, ds, P, n, ex, bx, box, hn, r, hS, kk⟩ => r.length.trans (len ds P hS)) fun cdv A outer s H vs Q E hr ⟨B, F', ds, P', n, ex, bx, box, hn, r, hS, kk⟩ => ?_
  obtain ⟨T, d, hT⟩ := hbody cdv A outer s H E hr
  refine ⟨_, PSs.nox d, fun a => H a = none, B, F', startD N ds, _, n, rs_start ex bx r, box, hn, hT ds P' hS, fun F2 H2 σ' ε' g r2 p => ?_, fun F2 H2 σ' ε' g r2 p => p.elim, fun F2 H2 σ' ε' g r2 p => p.elim, fun v F2 H2 d g q p => ?_⟩
  · exact kk .non F2 H2 .non g.toNo .non p
  · exact kk v F2 H2 d g.toNo q p
end
end DL
set_option maxRecDepth 100000
set_option maxHeartbeats 2000000
/-! DL11: __init__ by data, comprehensions of two clauses. -/
namespace DL
open PySem PySem.Spec PyProof.Rows L2 RZ
variable [TabC]

/-! ### self.f = e -/
def putFD (f : Str) (v : Dat) : List (Str × Dat) → List (Str × Dat)
  | [] => [(f, v)]
  | (g, x) :: r => if g = f then (g, v) :: r else (g, x) :: putFD f v r
theorem putF_ok {B : BB} {F : Hp} {f : Str} {v : V} {d : Dat} (r : Rep B F v d) : ∀ {fs : List (Str × V)} {xs : List (Str × Dat)}, fs.map (·.1) = xs.map (·.1) → Reps B F (fs.map (·.2)) (xs.map (·.2)) →
    (putF f v fs).map (·.1) = (putFD f d xs).map (·.1) ∧ Reps B F ((putF f v fs).map (·.2)) ((putFD f d xs).map (·.2))
  | [], [], _, _ => ⟨rfl, .cons r .nil⟩
  | [], _ :: _, h, _ => by simp at h
  | _ :: _, [], h, _ => by simp at h
  | (g, x) :: fs, (g', x') :: xs, h, hr => by
    simp only [List.map_cons, List.cons.injEq] at h
    obtain ⟨rfl, h⟩ := h
    simp only [List.map_cons] at hr
    cases hr with
    | cons h1 h2 =>
      obtain ⟨i1, i2⟩ := putF_ok (f := f) r h h2
      unfold putF putFD
      by_cases e : g = f
      · rw [if_pos e, if_pos e]
        exact ⟨by simp only [List.map_cons, h], .cons r h2⟩
      · rw [if_neg e, if_neg e]
        exact ⟨by simp only [List.map_cons, i1], .cons h1 i2⟩
/-- the state within __init__: self's object is nobody's yet -/
abbrev TID0 := (List (Str × Dat) → Prop) → List (Str × Dat) → Ev → Prop
def liftN (C : Addr) (c : Nat) (T : TID0) : TS := fun D σ H => ∃ (A : Addr → Prop) (B : BB) (F : Hp) (ε : Ev) (P : List (Str × Dat) → Prop) (n : Nat) (p dx : Addr) (fs : List (Str × V)) (xs : List (Str × Dat)),
  Rs A B F H σ ε ∧ BoxAt B H n ∧ n + c ≤ CAP ∧ ε[0]? = some (.raw (.ref p)) ∧ ¬ A p ∧ F p = none ∧ ¬ B.has p ∧ H p = some (.ins C dx fs) ∧ fs.map (·.1) = xs.map (·.1) ∧ Reps B F (fs.map (·.2)) (xs.map (·.2)) ∧ T P xs ε ∧
  ∀ F' H' σ' dx' fs' xs', Gr (fun a => A a ∨ a = p) B c F H F' H' → F' p = none → H' p = some (.ins C dx' fs') → fs'.map (·.1) = xs'.map (·.1) → Reps B F' (fs'.map (·.2)) (xs'.map (·.2)) → P xs' → D.nx σ' H'
def SIs (C : Addr) (X : Cx) (c : Nat) (st : List Stmt) (T : TID0) : Prop := PSs X st (liftN C c T)
section
variable {X : Cx} {e a b o : Expr} {es : List Expr} {pos p px tpos : Pos} {x f : Str} {c c1 c2 c3 i kt : Nat} {T Ta Tb Te Ti : TD} {U : TAD} {m : Md} {C : Addr} {st : Stmt} {rest : List Stmt} {Ts : TSD} {Tn : TID0}
theorem free_keep {A : Addr → Prop} {B : BB} {c : Nat} {F H F' H' : Hp} {p : Addr} {o : HO} (g : Gr A B c F H F' H') (hF : F p = none) (hA : ¬ A p) (hp : H p = some o) : F' p = none := by
  cases q : F' p with
  | none => rfl
  | some u =>
    rcases g.new p u q with z | z | z
    · rw [hF] at z; cases z
    · rw [hp] at z; cases z
    · exact (hA z).elim
theorem si_nil : SIs C X 0 [] (fun P xs _ => P xs) := pss_weak pss_nil fun D σ H ⟨A, B, F, ε, P, n, p, dx, fs, xs, r, bx, hn, h0, hA, hF, hB, hp, hk, hv, t, k⟩ =>
  k F H σ dx fs xs (Gr.refl r.ex) hF hp hk hv t
theorem si_chk (h : SD X c1 st Ts) (h2 : SIs C X c2 rest Tn) : SIs C X (c1 + c2) (st :: rest) (fun P xs ε => Ts { nx := fun ε' => ε'[0]? = ε[0]? ∧ Tn P xs ε', rt := fun _ => False } ε) :=
  pss_weak (pss_cons h h2) fun D σ H ⟨A, B, F, ε, P, n, p, dx, fs, xs, r, bx, hn, h0, hA, hF, hB, hp, hk, hv, t, k⟩ =>
    ⟨A, B, F, ε, _, n, r, bx, by omega, t, fun F1 H1 σ1 ε1 g1 r1 ⟨e1, t1⟩ =>
      ⟨A, B, F1, ε1, P, n + c1, p, dx, fs, xs, r1, g1.box n bx, by omega, e1.trans h0, hA, free_keep g1 hF hA hp, hB, g1.keep p _ hp hB hA, hk, hv.mono g1.ex, t1, fun F' H' σ' dx' fs' xs' g => k F' H' σ' dx' fs' xs' ((g1.toA fun _ z => .inl z).trans g)⟩,
      fun _ _ _ _ _ _ z => z.elim, fun _ _ _ _ _ _ z => z.elim, fun _ _ _ _ _ _ z => z.elim⟩
theorem si_set {pos' : Pos} (cl : Cls X.K C) (na : NoAttr X.K C f) (hx : PE X (.Name x px) (tVar 0)) (he : PD .rep X c1 e Te) (h2 : SIs C X c2 rest Tn) (hs : swapsWith e (some (.Attribute (.Name x px) f pos')) pos.line X.env = pure false := by rfl) :
    SIs C X (c1 + c2) (.Assign [.Attribute (.Name x px) f pos'] e pos :: rest) (fun P xs ε => Te ε fun z => xs.length < 1000 ∧ Tn P (putFD f z xs) ε) :=
  pss_weak (pss_cons (ps_fld hx he hs) h2) fun D σ H ⟨A, B, F, ε, P, n, p, dx, fs, xs, r, bx, hn, h0, hA, hF, hB, hp, hk, hv, t, k⟩ =>
    ⟨A, B, F, ε, _, n, r, bx, by omega, t, fun v F1 H1 z g1 q1 ⟨hl, t1⟩ => by
      have r1 := r.gr g1
      have hp1 : H1 p = some (.ins C dx fs) := g1.keep p _ hp hB (fun z => z)
      have hF1 : F1 p = none := free_keep g1 hF (fun z => z) hp
      have := congrArg List.length hk
      rw [List.length_map, List.length_map] at this
      obtain ⟨i1, i2⟩ := putF_ok (f := f) q1 hk (hv.mono g1.ex)
      have g2 : Gr (fun a => A a ∨ a = p) B 0 F1 H1 F1 (upd H1 p (.ins C dx (putF f v fs))) := Gr.write r1.ex (.inr rfl) hF1 hB (fun φ z => by rw [hp1] at z; cases z)
      refine ⟨.ref p, r.raw 0 _ h0, p, C, dx, fs, rfl, hp1, cl, na, by omega, ?_⟩
      refine ⟨A, B, F1, ε, P, n + c1, p, dx, putF f v fs, putFD f z xs, ?_, ?_, by omega, h0, hA, hF1, hB, upd_same, i1, i2, t1, fun F' H' σ' dx' fs' xs' g => k F' H' σ' dx' fs' xs' (((g1.any.trans g2).trans g).mono (by omega))⟩
      · refine ⟨g2.sub, r1.len, r1.val, fun j e q => ?_, r1.sep, fun b hb => ?_, fun a ha => r1.new a ?_, r1.raw⟩
        · obtain ⟨p2, h3, h4, h5⟩ := r1.own j e q
          refine ⟨p2, h3, h4, h5.out, h5.nb, ?_⟩
          obtain ⟨o2, h6, h7⟩ := h5.con
          have ne : p2 ≠ p := fun z => by
            subst z
            exact hA h4
          exact ⟨o2, by rw [upd_ne ne]; exact h6, h7⟩
        · obtain ⟨h3, h4, u, h5⟩ := r1.bx b hb
          exact ⟨h3, h4, u, by rw [upd_ne (show b ≠ p from fun z => hB (by rw [← z]; exact hb))]; exact h5⟩
        · by_cases z : a = p
          · subst z; rw [upd_same] at ha; cases ha
          · rwa [upd_ne z] at ha
      · exact g2.box _ (g1.box n bx) |>.mono (by omega)⟩
end
def startO (p : Addr) (N : List Str) (ds : List Dat) : Ev := .raw (.ref p) :: (ds.map .val ++ List.replicate (N.length - (ds.length + 1)) .off)
theorem rs_startO {B : BB} {F H : Hp} {N : List Str} {p : Addr} {vs : List V} {ds : List Dat} (ex : Ex F H) (bx : Bx B F H) (r : Reps B F vs ds) : Rs (fun a => H a = none) B F H (L2.start N (.ref p :: vs)) (startO p N ds) where
  ex := ex
  len := by
    unfold startO L2.start
    simp [r.length]
  val := fun i d h => by
    cases i with
    | zero => unfold startO at h; cases h
    | succ i =>
      unfold startO at h
      unfold L2.start
      rw [List.getElem?_cons_succ] at h
      rw [List.map_cons, List.cons_append, List.getElem?_cons_succ, List.length_cons, r.length]
      exact start_val r _ i d h
  own := fun i d h => by
    cases i with
    | zero => unfold startO at h; cases h
    | succ i =>
      unfold startO at h
      rw [List.getElem?_cons_succ] at h
      rcases start_no _ _ _ h with e | ⟨_, e⟩ <;> cases e
  sep := fun i j d e p h => by
    cases i with
    | zero => unfold startO at h; cases h
    | succ i =>
      unfold startO at h
      rw [List.getElem?_cons_succ] at h
      rcases start_no _ _ _ h with e | ⟨_, e⟩ <;> cases e
  bx := fun b hb => by
    obtain ⟨h1, o, h2⟩ := bx b hb
    exact ⟨h1, fun e => (by rw [h2] at e; cases e), o, h2⟩
  new := fun a h => h
  raw := fun i v h => by
    cases i with
    | zero =>
      unfold startO at h
      cases h
      rfl
    | succ i =>
      unfold startO at h
      rw [List.getElem?_cons_succ] at h
      rcases start_no _ _ _ h with e | ⟨_, e⟩ <;> cases e
section
variable {P : Program} {w : World} {K : PySem.W.Frag} {mg : Str → Option Value} {base : Heap} {x qual : Str} {params : Arguments} {body : List Stmt} {scope : Scope} {f C : Addr} {fd : FuncData}
theorem okI {N ps : List Str} {k c : Nat} {S : List Dat → (List (Str × Dat) → Prop) → Prop} (F : FunD K x qual params body scope [] [] f fd) (Sc : FnScope N ps scope) (len : ∀ ds Q, S ds Q → ds.length + 1 = ps.length)
    (hbody : ∀ (cdv : Value) (A : Around) (outer : List Env) (s : Shared) (H : Hp) (E : XK), Room k (A.deeper (envOfC qual scope s.heap.objs.size f cdv)) →
      ∃ T, SIs C (cxOf CX0 P w K mg base N qual scope f cdv A outer s H E).nox c body T ∧ ∀ ds Q p, S ds Q → T Q [] (startO p N ds)) : FnOk P w K mg base CX0 (k + 1) f fd ps (spI c C S) := by
  refine F.ok Sc (fun vs H Q E ⟨B, F, p, dx, vs', ds, P, n, e1, hp, hF, hB, ex, bx, box, hn, r, hS, kk⟩ => ?_) fun cdv A outer s H vs Q E hr ⟨B, F', p, dx, vs', ds, P', n, e1, hp, hF, hB, ex, bx, box, hn, r, hS, kk⟩ => ?_
  · subst e1
    rw [List.length_cons, r.length]
    exact len ds P hS
  obtain ⟨T, d, hT⟩ := hbody cdv A outer s H E hr
  subst e1
  refine ⟨_, PSs.nox d, fun a => H a = none, B, F', startO p N ds, P', n, p, dx, [], [], rs_startO ex bx r, box, hn, rfl, (show ¬ H p = none by rw [hp]; exact fun z => nomatch z), hF, hB, hp, rfl, .nil, hT ds P' p hS, fun F2 H2 σ' dx' fs' xs' g hF2 hp2 hk hv q => ?_⟩
  refine kk F2 H2 dx' fs' xs' ⟨g.ex, g.sub, fun a o h => ?_, fun a o h nb na => g.keep a o h nb fun z => ?_, g.there, g.box⟩ hF2 hp2 hk hv q
  · rcases g.new a o h with z | z | z | z
    · exact .inl z
    · exact .inr (.inl z)
    · exact .inr (.inl z)
    · exact .inr (.inr z)
  · rcases z with z | z
    · rw [h] at z; cases z
    · exact na z
end
end DL
set_option maxRecDepth 100000
set_option maxHeartbeats 2000000
/-! DL12: comprehensions of two clauses. -/
namespace DL
open PySem PySem.Spec PyProof.Rows L2 RZ
variable [TabC]
section
variable {w w1 : Bool} {X : Cx} {tg iter tg1 iter1 elt : Expr} {pos : Pos} {ci : Nat} {Ti Ti1 : TID} {G G1 : GD} {Tt Tt1 : TTD} {Te : TD} {is is1 : List Nat}
def dLc2 (Ti : TID) (G : GD) (Tt : TTD) (Ti1 : TID) (G1 : GD) (Tt1 : TTD) (Te : TD) (vs vs1 : List Nat) : TD := fun ε P => Ti ε fun ds => ds.length ≤ 1024 ∧ ∃ Iv : Nat → List Dat → Prop, Iv 0 [] ∧
  (∀ i d acc, ds[i]? = some d → Iv i acc → G d (wipeD ε vs) fun ε2 => Tt ε2 fun b => if b = true then Ti1 ε2 fun es => es.length ≤ 1024 ∧ ∃ Iv1 : Nat → List Dat → Prop, Iv1 0 acc ∧
    (∀ j e acc1, es[j]? = some e → Iv1 j acc1 → G1 e (wipeD ε2 vs1) fun ε3 => Tt1 ε3 fun b => if b = true then Te ε3 fun y => Iv1 (j + 1) (acc1 ++ [y]) else Iv1 (j + 1) acc1) ∧ ∀ acc1, Iv1 es.length acc1 → Iv (i + 1) acc1 else Iv (i + 1) acc) ∧ ∀ acc, Iv ds.length acc → P (.lst acc)
theorem keepD {B : BB} {c : Nat} {F H F' H' : Hp} {D : Addr} {o : HO} (g : Gr NoA B c F H F' H') (hF : F D = none) (hD : H D = some o) (nB : ¬ B.has D) : H' D = some o ∧ F' D = none :=
  ⟨g.keep D _ hD nB (fun z => z), free_keep g hF (fun z => z) hD⟩
theorem Rs.grD {A : Addr → Prop} {B : BB} {c : Nat} {F H F' H' : Hp} {D : Addr} {σ : L2.St} {ε : Ev} (r : Rs A B F H σ ε) (hA : ¬ A D) (hB : ¬ B.has D) (g : Gr (fun a => a = D) B c F H F' H') : Rs A B F' H' σ ε where
  ex := g.sub
  len := r.len
  val := fun i d e => by
    obtain ⟨v, h1, h2⟩ := r.val i d e
    exact ⟨v, h1, h2.mono g.ex⟩
  own := fun i d e => by
    obtain ⟨p, h1, h2, w⟩ := r.own i d e
    have ne : ¬ p = D := fun z => hA (by rw [← z]; exact h2)
    obtain ⟨o, h3, h4⟩ := w.con
    exact ⟨p, h1, h2, free_keep g w.out ne h3, w.nb, o, g.keep p o h3 w.nb ne, h4.mono g.ex⟩
  sep := r.sep
  bx := fun b hb => by
    obtain ⟨h1, h2, o, h3⟩ := r.bx b hb
    have ne : ¬ b = D := fun z => hB (by rw [← z]; exact hb)
    exact ⟨free_keep g h1 ne h3, h2, g.there b o h3⟩
  new := fun a h => r.new a (g.free h)
  raw := r.raw
/-- D stands apart -/
theorem Rs.apart {A : Addr → Prop} {B : BB} {F H : Hp} {D : Addr} {o : HO} {σ : L2.St} {ε : Ev} (r : Rs A B F H σ ε) (hD : H D = none) : Rs (fun a => A a ∧ a ≠ D) B F (upd H D o) σ ε := by
  have r' := r.gr (Gr.alloc0 (o := o) r.ex hD)
  exact { r' with
    own := fun i d e => by
      obtain ⟨p, h1, h2, w⟩ := r.own i d e
      obtain ⟨o, h3, h4⟩ := w.con
      have ne : p ≠ D := fun z => by rw [z, hD] at h3; cases h3
      exact ⟨p, h1, ⟨h2, ne⟩, w.out, w.nb, o, by rw [upd_ne ne]; exact h3, h4⟩
    bx := fun b hb => by
      obtain ⟨h1, h2, h3⟩ := r'.bx b hb
      exact ⟨h1, fun z => h2 z.1, h3⟩
    new := fun a h => ⟨r'.new a h, fun z => by rw [z, upd_same] at h; cases h⟩ }
theorem Gr.noD {B : BB} {c : Nat} {F H F' H' : Hp} {D : Addr} {o : HO} (g : Gr (fun a => a = D) B c F (upd H D o) F' H') (hD : H D = none) (hB : ¬ B.has D) : Gr NoA B c F H F' H' where
  ex := g.ex
  sub := g.sub
  new := fun a u h => by
    rcases g.new a u h with z | z | z
    · exact .inl z
    · refine .inr (.inl ?_)
      by_cases e : a = D
      · rw [e]; exact hD
      · rwa [upd_ne e] at z
    · exact .inr (.inl (by rw [z]; exact hD))
  keep := fun a u h nb _ => by
    have ne : a ≠ D := ne_of_none h hD
    exact g.keep a u (by rw [upd_ne ne]; exact h) nb ne
  there := fun a u h => by
    have ne : a ≠ D := ne_of_none h hD
    exact g.there a u (by rw [upd_ne ne]; exact h)
  box := fun n h => g.box n ⟨fun b hb => by
    obtain ⟨vs, h1, h2⟩ := h.1 b hb
    have ne : b ≠ D := fun z => hB (.inl (z ▸ hb))
    exact ⟨vs, by rw [upd_ne ne]; exact h1, h2⟩, fun P hP => (h.2 P hP).ext (Ex.new hD)⟩
theorem lc2_run {vs vs1 : List Nat} (his : ∀ i ∈ is, i ∈ vs) (his1 : ∀ i ∈ is1, i ∈ vs1) : ∀ σ H Q, lift .fr ci (dLc2 Ti G Tt Ti1 G1 Tt1 Te vs vs1) σ H Q → tLc2 (liftI w ci Ti) (liftG w is G) (liftT 0 Tt) (liftI w1 0 Ti1) (liftG w1 is1 G1) (liftT 0 Tt1) (lift .rep 0 Te) vs vs1 σ H Q := fun σ H Q ⟨A, B, F, ε, P, n, r, bx, hn, t, k⟩ => by
  refine ⟨A, B, F, ε, _, n, r, bx, hn, t, fun J F1 H1 ds g1 wk ⟨hl, Iv, h0, hs, hd⟩ D hD => ?_⟩
  have r1 := r.gr g1
  have nB : ¬ B.has D := fun e => by
    obtain ⟨_, _, o, ho⟩ := r1.bx D e
    rw [hD] at ho
    cases ho
  have rD : Rs (fun a => A a ∧ a ≠ D) B F1 (upd H1 D (.lst [])) σ ε := r1.apart hD
  have nA : ¬ (A D ∧ D ≠ D) := fun z => z.2 rfl
  have bD : BoxAt B (upd H1 D (.lst [])) (n + ci) := (Gr.alloc0 (A := NoA) r1.ex hD).box _ (g1.box n bx)
  let Pv : Nat → Hp → Prop := fun i H' => ∃ Fi vacc acc, Gr (fun a => a = D) B 0 F1 (upd H1 D (.lst [])) Fi H' ∧ Fi D = none ∧ H' D = some (.lst vacc) ∧ Reps B Fi vacc acc ∧ Iv i acc ∧ acc.length ≤ i * 1024
  refine ⟨fun i m H' => m = ds.length - i ∧ i ≤ ds.length ∧ Pv i H', ⟨ds.length, by simp, Nat.zero_le _, F1, [], [], Gr.refl rD.ex, r1.ex.back hD, upd_same, .nil, h0, Nat.zero_le _⟩, ?_⟩
  rintro i m Hi ⟨rfl, hi, Fi, vacc, acc, g, hF, hDi, ra, inv, la⟩
  have ri := rD.grD nA nB g
  have exi : Ex F1 Hi := g.ex.trans g.sub
  rcases Nat.lt_or_ge i ds.length with hlt | hge
  · refine .inr ⟨wk.goes i Hi hlt exi, Pv (i + 1), fun H' p => ⟨ds.length - (i + 1), by omega, rfl, hlt, p⟩, fun x H' y0 => ?_⟩
    have y := wk.yields i Hi x H' hlt exi y0
    obtain ⟨d, F2, hd2, g2, rd, ex2⟩ := yd_step ri g.ex y
    have r2 := (ri.gr g2).wipe vs
    refine ⟨_, B, F2, wipeD ε vs, d, _, r2, rd, hs i d acc hd2 inv, fun σ3 ε3 r3 w3 t3 => ⟨by rw [w3 vs his, wipe_wipe], ?_⟩⟩
    have g02 : Gr (fun a => a = D) B 0 F1 (upd H1 D (.lst [])) F2 H' := g.trans g2.any
    obtain ⟨hD2, hF2⟩ := keepD g2 hF hDi nB
    refine ⟨_, B, F2, ε3, _, n + ci, r3, g02.box _ bD, by omega, t3, fun b F3 H3 g3 t4 => ?_⟩
    obtain ⟨hD3, hF3⟩ := keepD g3 hF2 hD2 nB
    have g03 : Gr (fun a => a = D) B 0 F1 (upd H1 D (.lst [])) F3 H3 := g02.trans g3.any
    cases b with
    | false => exact ⟨F3, vacc, acc, g03, hF3, hD3, (ra.mono g2.ex).mono g3.ex, t4, by omega⟩
    | true =>
      show liftI w1 0 Ti1 σ3 H3 _
      refine ⟨_, B, F3, ε3, _, n + ci, r3.gr g3, g03.box _ bD, by omega, t4, fun J1 F4 H4 es g4 wk1 ⟨hl1, Iv1, h01, hs1, hd1⟩ => ?_⟩
      obtain ⟨hD4, hF4⟩ := keepD g4 hF3 hD3 nB
      have g04 : Gr (fun a => a = D) B 0 F1 (upd H1 D (.lst [])) F4 H4 := g03.trans g4.any
      have r4 := (r3.gr g3).gr g4
      let Pw : Nat → Hp → Prop := fun j H' => ∃ Fj vacc1 acc1, Gr (fun a => a = D) B 0 F4 H4 Fj H' ∧ Fj D = none ∧ H' D = some (.lst vacc1) ∧ Reps B Fj vacc1 acc1 ∧ Iv1 j acc1 ∧ acc1.length ≤ i * 1024 + j
      refine ⟨fun j m H' => m = es.length - j ∧ j ≤ es.length ∧ Pw j H', ⟨es.length, by simp, Nat.zero_le _, F4, vacc, acc, Gr.refl r4.ex, hF4, hD4, ((ra.mono g2.ex).mono g3.ex).mono g4.ex, h01, by omega⟩, ?_⟩
      rintro j m Hj ⟨rfl, hj, Fj, vacc1, acc1, g5, hF5, hD5, ra5, inv1, la1⟩
      have exj : Ex F4 Hj := g5.ex.trans g5.sub
      have r5 := r4.grD nA nB g5
      have g05 : Gr (fun a => a = D) B 0 F1 (upd H1 D (.lst [])) Fj Hj := g04.trans g5
      rcases Nat.lt_or_ge j es.length with hlt1 | hge1
      · refine .inr ⟨wk1.goes j Hj hlt1 exj, Pw (j + 1), fun H' p => ⟨es.length - (j + 1), by omega, rfl, hlt1, p⟩, fun x1 H5 y1 => ?_⟩
        have yy := wk1.yields j Hj x1 H5 hlt1 exj y1
        obtain ⟨e1, F6, he1, g6, rd6, ex6⟩ := yd_step r5 g5.ex yy
        have r6 := (r5.gr g6).wipe vs1
        obtain ⟨hD6, hF6⟩ := keepD g6 hF5 hD5 nB
        refine ⟨_, B, F6, wipeD ε3 vs1, e1, _, r6, rd6, hs1 j e1 acc1 he1 inv1, fun σ7 ε7 r7 w7 t7 => ⟨by rw [w7 vs1 his1, wipe_wipe], ?_⟩⟩
        refine ⟨_, B, F6, ε7, _, n + ci, r7, (g05.trans g6.any).box _ bD, by omega, t7, fun b F8 H8 g8 t8 => ?_⟩
        obtain ⟨hD8, hF8⟩ := keepD g8 hF6 hD6 nB
        have g48 : Gr (fun a => a = D) B 0 F4 H4 F8 H8 := (g5.trans g6.any).trans g8.any
        cases b with
        | false => exact ⟨F8, vacc1, acc1, g48, hF8, hD8, (ra5.mono g6.ex).mono g8.ex, t8, by omega⟩
        | true =>
          show lift .rep 0 Te σ7 H8 _
          refine ⟨_, B, F8, ε7, _, n + ci, r7.gr g8, ((g05.trans g6.any).trans g8.any).box _ bD, by omega, t8, fun yv F9 H9 yd g9 ry iy => ?_⟩
          obtain ⟨hD9, hF9⟩ := keepD g9 hF8 hD8 nB
          have ra9 := ((ra5.mono g6.ex).mono g8.ex).mono g9.ex
          have hsz : acc1.length < 16777216 := by
            have : i * 1024 ≤ 1024 * 1024 := Nat.mul_le_mul_right _ (by omega)
            omega
          have g49 : Gr (fun a => a = D) B 0 F4 H4 F9 (upd H9 D (.lst (vacc1 ++ [yv]))) := (g48.trans g9.any).trans (Gr.write (g9.sub) rfl hF9 nB (fun φ z => by rw [hD9] at z; cases z))
          exact ⟨vacc1, hD9, by rw [ra9.length, sizeLine_eq]; exact hsz, F9, vacc1 ++ [yv], acc1 ++ [yd], g49, hF9, upd_same, ra9.append (.cons ry .nil), iy, by simp; omega⟩
      · have e : j = es.length := by omega
        subst e
        exact .inl ⟨wk1.stops Hj exj, Fj, vacc1, acc1, g05, hF5, hD5, ra5, hd1 acc1 inv1, by omega⟩
  · have e : i = ds.length := by omega
    subst e
    have gg := g1.trans (g.noD hD nB)
    exact .inl ⟨wk.stops Hi exi, k _ Fi Hi (.lst acc) (gg.mono (by omega)) ⟨D, rfl, ⟨hF, nB, _, hDi, ra⟩, g1.free hD⟩ (hd acc inv)⟩
theorem pd_lc2 {ifs ifs1 : List Expr} {scope : Scope} {own : List (Str × Nat)} {vs1 : List Nat} (hc : X.calm = true) (hN : X.N.Nodup) (hi : PID w X ci tg iter Ti) (ok : BlkOk X.N X.env.scope scope own) (hv : ∀ i ∈ vs1, i ∈ own.map (·.2))
    (hg : ∀ (s : Shared) (H : Hp) (C : Addr) (cl : List (Str × Addr)) (fp : List Addr), PGD w (X.blk s H scope (compEnvC scope cl C X.env) fp) is tg G) (ht : ∀ (s : Shared) (H : Hp) (C : Addr) (cl : List (Str × Addr)) (fp : List Addr), PTsD (X.blk s H scope (compEnvC scope cl C X.env) fp) 0 ifs Tt)
    (hi1 : ∀ (s : Shared) (H : Hp) (C : Addr) (cl : List (Str × Addr)) (fp : List Addr), PID w1 (X.blk s H scope (compEnvC scope cl C X.env) fp) 0 tg1 iter1 Ti1)
    (hg1 : ∀ (s : Shared) (H : Hp) (C : Addr) (cl : List (Str × Addr)) (fp : List Addr), PGD w1 (X.blk s H scope (compEnvC scope cl C X.env) fp) is1 tg1 G1) (ht1 : ∀ (s : Shared) (H : Hp) (C : Addr) (cl : List (Str × Addr)) (fp : List Addr), PTsD (X.blk s H scope (compEnvC scope cl C X.env) fp) 0 ifs1 Tt1)
    (he : ∀ (s : Shared) (H : Hp) (C : Addr) (cl : List (Str × Addr)) (fp : List Addr), PD .rep (X.blk s H scope (compEnvC scope cl C X.env) fp) 0 elt Te) (his : ∀ i ∈ is, i ∈ own.map (·.2) := by decide) (his1 : ∀ i ∈ is1, i ∈ vs1 := by decide) (hs : ∀ x, foldedSetIterable iter X.env x = pure x := by intro _; rfl) (hs1 : ∀ env x, foldedSetIterable iter1 env x = pure x := by intro _ _; rfl) :
    PD .fr X ci (.ListComp elt [⟨tg, iter, ifs, 0⟩, ⟨tg1, iter1, ifs1, 0⟩] scope pos) (dLc2 Ti G Tt Ti1 G1 Tt1 Te (own.map (·.2)) vs1) :=
  pe_weak (pe_lc2 hc hN hi ok hv hg ht hi1 hg1 ht1 he hs hs1) (lc2_run his his1)
end
end DL
set_option maxRecDepth 100000
set_option maxHeartbeats 2000000
/-! DL13: constants of the module, the sign, room. -/
namespace DL
open PySem PySem.Spec PyProof.Rows L2 RZ C8
variable [TabC]
section
variable {X : Cx} {e a b o : Expr} {es : List Expr} {pos p px tpos : Pos} {x f : Str} {c c1 c2 c3 i kt : Nat} {T Ta Tb Te Ti : TD} {U : TAD} {m : Md} {C : Addr}
theorem pd_gi {j : Int} (hg : Gl X x) (h : ∃ t, X.mg x = some (.int j t)) (hd : (x == ("__debug__" : Str)) = false := by decide) : PD .rep X 0 (.Name x pos) (dC (.int j)) :=
  pd_c (pe_gc hg (by obtain ⟨t, h⟩ := h; exact ⟨_, h, t, rfl⟩) hd) fun _ _ => .int
def dNeg (T : TD) : TD := fun ε P => T ε fun d => ∃ i, d = .int i ∧ P (.int (-i))
theorem pd_neg (h : PD .rep X c e T) : PD .rep X c (.UnaryOp .USub e pos) (dNeg T) := pe_weak (pe_un un_neg h) fun σ H Q ⟨A, B, F, ε, P, n, r, bx, hn, t, k⟩ =>
  ⟨A, B, F, ε, _, n, r, bx, hn, t, fun v F' H' d g q ⟨i, e1, p⟩ => by
    subst e1
    cases q
    exact ⟨i, rfl, k _ F' H' _ g .int p⟩⟩
end
theorem ru {k : Nat} {A : Around} (r : Room k A) : A.units + 65 < cLine := by have := r.un; omega
theorem ru0 {k : Nat} {A : Around} (r : Room k A) : A.units + 64 < cLine := by have := r.un; omega
theorem ru1 {k : Nat} {A : Around} (r : Room k A) : A.units + 1 < cLine := by have := r.un; omega
end DL
set_option maxRecDepth 100000
set_option maxHeartbeats 2000000
/-! DL14: the plain side: what the derived predicates say, for simp. -/
namespace DL
open PySem PySem.Spec PyProof.Rows L2 RZ
variable [TabC]
section
variable {T Ta Tb Te Ti : TD} {U V : TAD} {Tt Tu : TTD} {Ts Tr : TSD} {E : DE} {ε : Ev} {P : Dat → Prop} {PL : List Dat → Prop} {PB : Bool → Prop} {f f' : Dat → Dat → (Dat → Prop) → Prop} {fl : List Dat → (Dat → Prop) → Prop} {S : List Dat → (Dat → Prop) → Prop} {i j n : Nat} {d : Dat} {nx : Ev → Prop} {rt : Dat → Prop}
@[simp] theorem u_sSeq : sSeq Ts Tr E ε = Ts { E with nx := Tr E } ε := rfl
@[simp] theorem u_sNext : sNext E ε = E.nx ε := rfl
@[simp] theorem u_sPass : sPass E ε = E.nx ε := rfl
@[simp] theorem u_sBreak : sBreak E ε = E.bk ε := rfl
@[simp] theorem u_sCont : sCont E ε = E.ct ε := rfl
@[simp] theorem u_sNever : sNever E ε = False := rfl
@[simp] theorem u_sRet : sRet T E ε = T ε E.rt := rfl
@[simp] theorem u_sRetN : sRetN E ε = E.rt .non := rfl
@[simp] theorem u_sDrop : sDrop T E ε = T ε fun _ => E.nx ε := rfl
@[simp] theorem u_sIf : sIf Tt Ts Tr E ε = Tt ε fun b => if b = true then Ts E ε else Tr E ε := rfl
@[simp] theorem u_sFrz : sFrz i Ts E ε = ∃ d, ε[i]? = some (.own d) ∧ Ts E (ε.set i (.val d)) := rfl
@[simp] theorem u_sAsg : sAsg i T E ε = T ε fun d => E.nx (ε.set i (.val d)) := rfl
@[simp] theorem u_sAsgO : sAsgO i T E ε = T ε fun d => E.nx (ε.set i (.own d)) := rfl
@[simp] theorem u_aNil : aNil ε PL = PL [] := rfl
@[simp] theorem u_aCons : aCons T U ε PL = T ε fun d => U ε fun ds => PL (d :: ds) := rfl
@[simp] theorem u_sMul {is : List Nat} {ms : List Md} : sMul is ms U E ε = U ε fun ds => E.nx (setM is ms ds ε) := rfl
@[simp] theorem u_dVar : dVar i ε P = ∃ d, ε[i]? = some (.val d) ∧ P d := rfl
@[simp] theorem u_dVarS : dVarS i ε P = ∃ d, (ε[i]? = some (.val d) ∨ ε[i]? = some (.own d)) ∧ P d := rfl
@[simp] theorem u_dC : dC d ε P = P d := rfl
@[simp] theorem u_dOp : dOp f Ta Tb ε P = Ta ε fun d => Tb ε fun e => f d e P := rfl
@[simp] theorem u_dNeg : dNeg T ε P = T ε fun d => ∃ i, d = .int i ∧ P (.int (-i)) := rfl
@[simp] theorem u_tV : tV T ε PB = T ε fun d => ∃ b, d = .bl b ∧ PB b := rfl
@[simp] theorem u_tNt : tNt Tt ε PB = Tt ε fun b => PB (!b) := rfl
@[simp] theorem u_tAn : tAn Tt Tu ε PB = Tt ε fun b => if b = true then Tu ε PB else PB false := rfl
@[simp] theorem u_tOr : tOr Tt Tu ε PB = Tt ε fun b => if b = true then PB true else Tu ε PB := rfl
@[simp] theorem u_dAn : dAn Ta Tb ε P = Ta ε fun d => ∃ b, d = .bl b ∧ if b = true then Tb ε P else P (.bl false) := rfl
@[simp] theorem u_dOr : dOr Ta Tb ε P = Ta ε fun d => ∃ b, d = .bl b ∧ if b = true then P (.bl true) else Tb ε P := rfl
@[simp] theorem u_dNt : dNt Ta ε P = Ta ε fun d => ∃ b, d = .bl b ∧ P (.bl (!b)) := rfl
@[simp] theorem u_dIf : dIf Tt Ta Tb ε P = Tt ε fun b => if b = true then Ta ε P else Tb ε P := rfl
@[simp] theorem u_dCh {Tc : TD} : dCh f f' Ta Tb Tc ε P = Ta ε fun x => Tb ε fun y => f x y fun z => ∃ k, z = .bl k ∧ if k = true then Tc ε fun w => f' y w P else P (.bl false) := rfl
@[simp] theorem u_aStar : aStar T U ε PL = T ε fun d => ∃ xs, (d = .lst xs ∨ d = .tup xs) ∧ U ε fun ds => PL (xs ++ ds) := rfl
@[simp] theorem u_dTup : dTup U ε P = U ε fun ds => ds.length ≤ 100000 ∧ P (.tup ds) := rfl
@[simp] theorem u_dLst : dLst U ε P = U ε fun ds => ds.length ≤ 100000 ∧ P (.lst ds) := rfl
@[simp] theorem u_oNone {PO : Option Int → Prop} : oNone ε PO = PO none := rfl
@[simp] theorem u_oSome {PO : Option Int → Prop} : oSome T ε PO = T ε fun d => ∃ i, d = .int i ∧ PO (some i) := rfl
@[simp] theorem u_dSl {O1 O2 : TOD} : dSl T O1 O2 ε P = T ε fun d => O1 ε fun lo => O2 ε fun hi => fSl d lo hi P := rfl
@[simp] theorem u_dFld {C : Addr} {x : Str} : dFld C T x ε P = T ε fun d => ∃ xs z, d = .obj C xs ∧ xs.lookup x = some z ∧ P z := rfl
@[simp] theorem u_dCall : dCall S U ε P = U ε fun ds => S ds P := rfl
@[simp] theorem u_dCallK {perm : List Nat} {m : Nat} : dCallK S n m perm U V ε P = U ε fun ds => V ε fun es => ds.length = n ∧ es.length = m ∧ S (gK perm ds es) P := rfl
@[simp] theorem u_dMake {C : Addr} {SI : List Dat → (List (Str × Dat) → Prop) → Prop} : dMake C SI U ε P = U ε fun ds => SI ds fun fds => P (.obj C fds) := rfl
@[simp] theorem u_dMakeK {C : Addr} {SI : List Dat → (List (Str × Dat) → Prop) → Prop} {perm : List Nat} {m : Nat} : dMakeK C SI n m perm U V ε P = U ε fun ds => V ε fun es => ds.length = n ∧ es.length = m ∧ SI (gK perm ds es) fun fds => P (.obj C fds) := rfl
@[simp] theorem u_dCr : dCr fl U ε P = U ε fun ds => fl ds P := rfl
@[simp] theorem u_dLr1 : dLr1 T ε P = T ε fun d => ∃ j : Int, d = .int j ∧ j ≤ 10000 ∧ -10000 ≤ j ∧ P (.lst (rngD 0 j.toNat)) := rfl
@[simp] theorem u_dLr2 : dLr2 Ta Tb ε P = Ta ε fun d => Tb ε fun e => ∃ i j : Int, d = .int i ∧ e = .int j ∧ i ≤ 10000 ∧ -10000 ≤ i ∧ j ≤ 10000 ∧ -10000 ≤ j ∧ P (.lst (rngD i (j - i).toNat)) := rfl
@[simp] theorem u_dTIx : dTIx Ta Te ε P = Ta ε fun d => ∃ xs, d = .tup xs ∧ Te ε fun y => ∃ j z, flatD y = true ∧ xs.all flatD = true ∧ xs[j]? = some z ∧ eqD z y = true ∧ (∀ m z', m < j → xs[m]? = some z' → eqD z' y = false) ∧ P (.int (j : Nat)) := rfl
@[simp] theorem u_dLIx : dLIx Ta Te ε P = Ta ε fun d => ∃ xs, d = .lst xs ∧ Te ε fun y => ∃ j z, pl 20 y = true ∧ pl 20 d = true ∧ xs[j]? = some z ∧ eqD z y = true ∧ (∀ m z', m < j → xs[m]? = some z' → eqD z' y = false) ∧ P (.int (j : Nat)) := rfl
@[simp] theorem u_dLS : dLS T ε P = T ε fun d => ∃ xs ns, d = .tup xs ∧ intsD xs = some ns ∧ ns.Nodup ∧ ns.length ≤ 4000 ∧ P (.int (ns.length : Nat)) := rfl
@[simp] theorem u_dBorA : dBorA i T ε P = ∃ d, ε[i]? = some (.own d) ∧ T (ε.set i (.val d)) fun d' => atomD d' = true ∧ P d' := rfl
@[simp] theorem u_dBorD : dBorD i T ε P = ∃ d, ε[i]? = some (.own d) ∧ isDD d = true ∧ T (ε.set i (.val d)) fun d' => noD d' = true ∧ P d' := rfl
@[simp] theorem u_tBor : tBor i Tt ε PB = ∃ d, ε[i]? = some (.own d) ∧ Tt (ε.set i (.val d)) PB := rfl
@[simp] theorem u_sAsgG {G : GD} : sAsgG T G E ε = T ε fun d => G d ε E.nx := rfl
@[simp] theorem u_gN {R : Ev → Prop} : gN i d ε R = R (ε.set i (.val d)) := rfl
@[simp] theorem u_gNilD {R : Ev → Prop} : gNilD [] ε R = R ε := by simp [gNilD]
@[simp] theorem u_gConsD {G : GD} {Gs : GsD} {ds : List Dat} {R : Ev → Prop} : gConsD G Gs (d :: ds) ε R = G d ε fun ε' => Gs ds ε' R := by
  apply propext
  constructor
  · rintro ⟨d', r, h, p⟩; cases h; exact p
  · intro p; exact ⟨d, ds, rfl, p⟩
@[simp] theorem u_gTupD {Gs : GsD} {ds : List Dat} {R : Ev → Prop} : gTupD n Gs (.tup ds) ε R = (ds.length = n ∧ Gs ds ε R) := by
  apply propext
  constructor
  · rintro ⟨r, h, p⟩; cases h; exact p
  · intro p; exact ⟨ds, rfl, p⟩
@[simp] theorem u_gUnlD {Gs : GsD} {ds : List Dat} {R : Ev → Prop} : gUnlD n Gs (.lst ds) ε R = (ds.length = n ∧ Gs ds ε R) := by
  apply propext
  constructor
  · rintro ⟨r, h, p⟩; cases h; exact p
  · intro p; exact ⟨ds, rfl, p⟩
@[simp] theorem u_sApp : sApp i T E ε = T ε fun d => ∃ ds, ε[i]? = some (.own (.lst ds)) ∧ ds.length < 100000 ∧ E.nx (ε.set i (.own (.lst (ds ++ [d])))) := rfl
@[simp] theorem u_sExt : sExt i T E ε = ((∃ ds, ε[i]? = some (.own (.lst ds))) ∧ T ε fun d => ∃ ds xs, ε[i]? = some (.own (.lst ds)) ∧ d = .lst xs ∧ ds.length + xs.length ≤ 100000 ∧ E.nx (ε.set i (.own (.lst (ds ++ xs))))) := rfl
@[simp] theorem u_sPop : sPop i j E ε = ∃ ds d, ε[j]? = some (.own (.lst (ds ++ [d]))) ∧ E.nx ((ε.set j (.own (.lst ds))).set i (.val d)) := rfl
@[simp] theorem u_sAppPop : sAppPop i j T E ε = ∃ ys xs, i ≠ j ∧ ε[i]? = some (.own (.lst ys)) ∧ ε[j]? = some (.own (.lst xs)) ∧ T ε fun d => ∃ (k : Nat) (z : Dat), d = .int (k : Int) ∧ k < 2 ^ 62 ∧ xs[k]? = some z ∧ ys.length < 100000 ∧ E.nx ((ε.set j (.own (.lst (xs.eraseIdx k)))).set i (.own (.lst (ys ++ [z])))) := rfl
@[simp] theorem u_sSetL : sSetL i Ti Te E ε = Te ε fun z => (∃ ds, ε[i]? = some (.own (.lst ds))) ∧ Ti ε fun d => ∃ ds k j, ε[i]? = some (.own (.lst ds)) ∧ d = .int k ∧ ixN ds.length k = some j ∧ E.nx (ε.set i (.own (.lst (ds.set j z)))) := rfl
@[simp] theorem u_sAugL : sAugL i Ti Te E ε = ((∃ ds, ε[i]? = some (.own (.lst ds))) ∧ Ti ε fun d => ∃ (ds : List Dat) (k : Nat) (a : Int), ε[i]? = some (.own (.lst ds)) ∧ d = .int (k : Int) ∧ ds[k]? = some (.int a) ∧ Te ε fun z => ∃ b : Int, z = .int b ∧ E.nx (ε.set i (.own (.lst (ds.set k (.int (a + b))))))) := rfl
@[simp] theorem u_sPutK : sPutK i Ti Te E ε = Te ε fun z => (∃ ks, ε[i]? = some (.own (.dct ks))) ∧ Ti ε fun d => ∃ ks k, ε[i]? = some (.own (.dct ks)) ∧ keyD d = some k ∧ ks.length < 100000 ∧ E.nx (ε.set i (.own (.dct (putD ks k z)))) := rfl
@[simp] theorem u_sPutT : sPutT i U Te E ε = Te ε fun z => (∃ ks, ε[i]? = some (.own (.dtt ks))) ∧ U ε fun ds => ∃ ks k, ε[i]? = some (.own (.dtt ks)) ∧ ds.mapM keyD = some k ∧ ds.length ≤ 1000 ∧ ks.length < 100000 ∧ E.nx (ε.set i (.own (.dtt (putD ks k z)))) := rfl
@[simp] theorem u_dInT {neg : Bool} : dInT neg U T ε P = U ε fun ds => ∃ k, ds.mapM keyD = some k ∧ ds.length ≤ 1000 ∧ T ε fun d => ∃ ks, d = .dtt ks ∧ P (.bl (neg != (lookD ks k).isSome)) := rfl
@[simp] theorem u_sAug {op : Int → Int → Int} : sAug i Te op E ε = ∃ a, ε[i]? = some (.val (.int a)) ∧ Te ε fun z => ∃ b, z = .int b ∧ E.nx (ε.set i (.val (.int (op a b)))) := rfl
@[simp] theorem u_iL {PI : List Dat → Prop} : iL T ε PI = T ε fun d => ∃ ds, d = .lst ds ∧ PI ds := rfl
@[simp] theorem u_iT {PI : List Dat → Prop} : iT T ε PI = T ε fun d => ∃ ds, d = .tup ds ∧ PI ds := rfl
@[simp] theorem u_iEn {PI : List Dat → Prop} : iEn U ε PI = U ε fun ds => ∃ d xs, ds = [d] ∧ (d = .lst xs ∨ d = .tup xs) ∧ PI (enumD xs) := rfl
@[simp] theorem u_iZp {PI : List Dat → Prop} : iZp U ε PI = U ε fun ds => ∃ d d' xs ys, ds = [d, d'] ∧ ((d = .lst xs ∧ d' = .lst ys) ∨ (d = .tup xs ∧ d' = .tup ys)) ∧ PI (zipD xs ys) := rfl
@[simp] theorem u_iR1 {PI : List Dat → Prop} : iR1 U ε PI = U ε fun ds => ∃ j : Int, ds = [.int j] ∧ j < 2 ^ 62 ∧ -(2 ^ 62) ≤ j ∧ PI (rngD 0 j.toNat) := rfl
@[simp] theorem u_iR2 {PI : List Dat → Prop} : iR2 U ε PI = U ε fun ds => ∃ i j : Int, ds = [.int i, .int j] ∧ (-(2 ^ 62) ≤ i ∧ i < 2 ^ 62 ∧ -(2 ^ 62) ≤ j ∧ j < 2 ^ 62) ∧ PI (rngD i (j - i).toNat) := rfl
@[simp] theorem u_dYes : dYes ε PB = PB true := rfl
@[simp] theorem u_wipe0 : wipeD ε [] = ε := rfl
@[simp] theorem u_wipe1 {vs : List Nat} : wipeD ε (i :: vs) = (wipeD ε vs).set i .off := rfl
@[simp] theorem u_setM0 {ms : List Md} {ds : List Dat} : setM [] ms ds ε = ε := by unfold setM; rfl
@[simp] theorem u_setMf {is : List Nat} {ms : List Md} {ds : List Dat} : setM (i :: is) (.fr :: ms) (d :: ds) ε = setM is ms ds (ε.set i (.own d)) := rfl
@[simp] theorem u_setMr {is : List Nat} {ms : List Md} {ds : List Dat} : setM (i :: is) (.rep :: ms) (d :: ds) ε = setM is ms ds (ε.set i (.val d)) := rfl
@[simp] theorem u_startD {N : List Str} {ds : List Dat} : startD N ds = ds.map .val ++ List.replicate (N.length - ds.length) .off := rfl
/-! operators on shapes -/
variable {a b : Int} {p q : Bool} {xs ys : List Dat}
@[simp] theorem o_I {g : Int → Int → Int} {C : Int → Int → Prop} : fI g C (.int a) (.int b) P = (C a b ∧ P (.int (g a b))) := rfl
@[simp] theorem o_C {g : Int → Int → Bool} : fC g (.int a) (.int b) P = P (.bl (g a b)) := rfl
@[simp] theorem o_Aii : fAdd (.int a) (.int b) P = P (.int (a + b)) := rfl
@[simp] theorem o_Aib : fAdd (.int a) (.bl p) P = P (.int (a + PyProof.Rows.b2i p)) := rfl
@[simp] theorem o_Att : fAdd (.tup xs) (.tup ys) P = (xs.length + ys.length ≤ 100000 ∧ P (.tup (xs ++ ys))) := rfl
@[simp] theorem o_All : fAdd (.lst xs) (.lst ys) P = (xs.length + ys.length ≤ 100000 ∧ P (.lst (xs ++ ys))) := rfl
@[simp] theorem o_Mii : fMul (.int a) (.int b) P = (CMul a b ∧ P (.int (a * b))) := rfl
@[simp] theorem o_Mli : fMul (.lst xs) (.int b) P = (b < 1000 ∧ -1000 < b ∧ xs.length ≤ 100 ∧ P (.lst (List.replicate b.toNat xs).flatten)) := rfl
@[simp] theorem o_Mti : fMul (.tup xs) (.int b) P = (b < 1000 ∧ -1000 < b ∧ xs.length ≤ 100 ∧ P (.tup (List.replicate b.toNat xs).flatten)) := rfl
@[simp] theorem o_Rli : fRepL (.lst xs) (.int b) P = (b < 1000 ∧ -1000 < b ∧ xs.length ≤ 100 ∧ P (.lst (List.replicate b.toNat xs).flatten)) := rfl
@[simp] theorem o_Eq {d e : Dat} : fEq d e P = (pl 20 d = true ∧ pl 20 e = true ∧ P (.bl (eqD d e))) := rfl
@[simp] theorem o_Ne {d e : Dat} : fNe d e P = (pl 20 d = true ∧ pl 20 e = true ∧ P (.bl (!eqD d e))) := rfl
@[simp] theorem o_IsN {neg : Bool} {d : Dat} : fIs neg d .non P = P (.bl (neg != isNon d)) := by cases d <;> rfl
@[simp] theorem o_IsB {neg : Bool} : fIs neg (.bl p) (.bl q) P = P (.bl (neg != (p == q))) := rfl
@[simp] theorem o_InL {neg : Bool} {d : Dat} : fIn neg d (.lst xs) P = (pl 20 d = true ∧ pl 20 (.lst xs) = true ∧ P (.bl (neg != xs.any fun z => eqD z d))) := by cases d <;> rfl
@[simp] theorem o_InT {neg : Bool} {d : Dat} : fIn neg d (.tup xs) P = (flatD d = true ∧ xs.all flatD = true ∧ P (.bl (neg != xs.any fun z => eqD z d))) := by cases d <;> rfl
@[simp] theorem o_IxL : fIx (.lst xs) (.int a) P = ∃ d, atI xs a = some d ∧ P d := rfl
@[simp] theorem o_IxT : fIx (.tup xs) (.int a) P = ∃ d, atI xs a = some d ∧ P d := rfl
@[simp] theorem o_IxD {ks : List (Key × Dat)} {d : Dat} : fIx (.dct ks) d P = ∃ k e, keyD d = some k ∧ lookD ks k = some e ∧ P e := rfl
@[simp] theorem o_SlL {lo hi : Option Int} : fSl (.lst xs) lo hi P = P (.lst (cut xs lo hi)) := rfl
@[simp] theorem o_SlT {lo hi : Option Int} : fSl (.tup xs) lo hi P = P (.tup (cut xs lo hi)) := rfl
@[simp] theorem o_LenL : fLen [.lst xs] P = P (.int xs.length) := rfl
@[simp] theorem o_LenT : fLen [.tup xs] P = P (.int xs.length) := rfl
@[simp] theorem o_IntI : fInt [.int a] P = P (.int a) := rfl
@[simp] theorem o_IntB : fInt [.bl p] P = P (.int (if p then 1 else 0)) := rfl
@[simp] theorem o_TupL : fTup [.lst xs] P = P (.tup xs) := rfl
@[simp] theorem o_TupT : fTup [.tup xs] P = P (.tup xs) := rfl
@[simp] theorem o_LstL : fLst [.lst xs] P = P (.lst xs) := rfl
@[simp] theorem o_LstT : fLst [.tup xs] P = P (.lst xs) := rfl
@[simp] theorem o_MaxL : fMax [.lst xs] P = ∃ ns, intsD xs = some ns ∧ 0 < ns.length ∧ ∀ m, m ∈ ns → (∀ y, y ∈ ns → y ≤ m) → P (.int m) := rfl
@[simp] theorem o_Max2 : fMax [.int a, .int b] P = P (.int (if b > a then b else a)) := rfl
@[simp] theorem o_MinL : fMin [.lst xs] P = ∃ ns, intsD xs = some ns ∧ 0 < ns.length ∧ ∀ m, m ∈ ns → (∀ y, y ∈ ns → m ≤ y) → P (.int m) := rfl
@[simp] theorem o_Min2 : fMin [.int a, .int b] P = P (.int (if b < a then b else a)) := rfl
@[simp] theorem o_SortedL : fSorted [.lst xs] P = ∃ ns, intsD xs = some ns ∧ ∀ ms : List Int, ms.Perm ns → ms.Pairwise (· ≤ ·) → P (.lst (ms.map Dat.int)) := rfl
@[simp] theorem o_SortedT : fSorted [.tup xs] P = ∃ ns, intsD xs = some ns ∧ ∀ ms : List Int, ms.Perm ns → ms.Pairwise (· ≤ ·) → P (.lst (ms.map Dat.int)) := rfl
@[simp] theorem o_All_ : fAll [.lst xs] P = ∃ bs, blsD xs = some bs ∧ P (.bl (bs.all _root_.id)) := rfl
@[simp] theorem o_Any_ : fAny [.lst xs] P = ∃ bs, blsD xs = some bs ∧ P (.bl (bs.any _root_.id)) := rfl
@[simp] theorem o_Isi {d : Dat} {s : String} : fIsi [d, .ty s] P = ∃ a, tyN d = some a ∧ s ∈ tyNames ∧ P (.bl (isT a s)) := rfl
@[simp] theorem o_Isi2 {d : Dat} {s t : String} : fIsi2 [d, .tup [.ty s, .ty t]] P = ∃ a, tyN d = some a ∧ s ∈ tyNames ∧ t ∈ tyNames ∧ P (.bl (isT a s || isT a t)) := rfl
@[simp] theorem o_IsO {C C' C2 : Addr} {fs : List (Str × Dat)} : fIsO C [.obj C' fs, .cls C2] P = (C' = C ∧ C2 = C ∧ P (.bl true)) := rfl
end
@[simp] theorem m_int : ("int" : String) ∈ tyNames := by decide
@[simp] theorem m_bool : ("bool" : String) ∈ tyNames := by decide
@[simp] theorem m_tuple : ("tuple" : String) ∈ tyNames := by decide
@[simp] theorem m_list : ("list" : String) ∈ tyNames := by decide
@[simp] theorem m_str : ("str" : String) ∈ tyNames := by decide
@[simp] theorem m_dict : ("dict" : String) ∈ tyNames := by decide
@[simp] theorem if_some_val {b : Bool} {d d' : Dat} : (some (Sl.val d) = some (Sl.own d')) = False := by simp
@[simp] theorem it_NoneType_bool : isT "NoneType" "bool" = false := by decide
@[simp] theorem it_NoneType_int : isT "NoneType" "int" = false := by decide
@[simp] theorem it_NoneType_str : isT "NoneType" "str" = false := by decide
@[simp] theorem it_NoneType_tuple : isT "NoneType" "tuple" = false := by decide
@[simp] theorem it_NoneType_list : isT "NoneType" "list" = false := by decide
@[simp] theorem it_NoneType_dict : isT "NoneType" "dict" = false := by decide
@[simp] theorem it_bool_bool : isT "bool" "bool" = true := by decide
@[simp] theorem it_bool_int : isT "bool" "int" = true := by decide
@[simp] theorem it_bool_str : isT "bool" "str" = false := by decide
@[simp] theorem it_bool_tuple : isT "bool" "tuple" = false := by decide
@[simp] theorem it_bool_list : isT "bool" "list" = false := by decide
@[simp] theorem it_bool_dict : isT "bool" "dict" = false := by decide
@[simp] theorem it_int_bool : isT "int" "bool" = false := by decide
@[simp] theorem it_int_int : isT "int" "int" = true := by decide
@[simp] theorem it_int_str : isT "int" "str" = false := by decide
@[simp] theorem it_int_tuple : isT "int" "tuple" = false := by decide
@[simp] theorem it_int_list : isT "int" "list" = false := by decide
@[simp] theorem it_int_dict : isT "int" "dict" = false := by decide
@[simp] theorem it_str_bool : isT "str" "bool" = false := by decide
@[simp] theorem it_str_int : isT "str" "int" = false := by decide
@[simp] theorem it_str_str : isT "str" "str" = true := by decide
@[simp] theorem it_str_tuple : isT "str" "tuple" = false := by decide
@[simp] theorem it_str_list : isT "str" "list" = false := by decide
@[simp] theorem it_str_dict : isT "str" "dict" = false := by decide
@[simp] theorem it_tuple_bool : isT "tuple" "bool" = false := by decide
@[simp] theorem it_tuple_int : isT "tuple" "int" = false := by decide
@[simp] theorem it_tuple_str : isT "tuple" "str" = false := by decide
@[simp] theorem it_tuple_tuple : isT "tuple" "tuple" = true := by decide
@[simp] theorem it_tuple_list : isT "tuple" "list" = false := by decide
@[simp] theorem it_tuple_dict : isT "tuple" "dict" = false := by decide
@[simp] theorem it_list_bool : isT "list" "bool" = false := by decide
@[simp] theorem it_list_int : isT "list" "int" = false := by decide
@[simp] theorem it_list_str : isT "list" "str" = false := by decide
@[simp] theorem it_list_tuple : isT "list" "tuple" = false := by decide
@[simp] theorem it_list_list : isT "list" "list" = true := by decide
@[simp] theorem it_list_dict : isT "list" "dict" = false := by decide
@[simp] theorem it_dict_bool : isT "dict" "bool" = false := by decide
@[simp] theorem it_dict_int : isT "dict" "int" = false := by decide
@[simp] theorem it_dict_str : isT "dict" "str" = false := by decide
@[simp] theorem it_dict_tuple : isT "dict" "tuple" = false := by decide
@[simp] theorem it_dict_list : isT "dict" "list" = false := by decide
@[simp] theorem it_dict_dict : isT "dict" "dict" = true := by decide
@[simp] theorem ty_non : tyN .non = some "NoneType" := rfl
@[simp] theorem ty_bl {b : Bool} : tyN (.bl b) = some "bool" := rfl
@[simp] theorem ty_int {i : Int} : tyN (.int i) = some "int" := rfl
@[simp] theorem ty_str {x : Str} : tyN (.str x) = some "str" := rfl
@[simp] theorem ty_tup {xs : List Dat} : tyN (.tup xs) = some "tuple" := rfl
@[simp] theorem ty_lst {xs : List Dat} : tyN (.lst xs) = some "list" := rfl
@[simp] theorem ty_dct {xs : List (Key × Dat)} : tyN (.dct xs) = some "dict" := rfl
@[simp] theorem ex_bl {b : Bool} {p : Bool → Prop} : (∃ k, Dat.bl b = .bl k ∧ p k) = p b := by
  apply propext
  constructor
  · rintro ⟨k, h, hp⟩; cases h; exact hp
  · intro h; exact ⟨b, rfl, h⟩
/-- a comprehension whose turns carry nothing: what is asked of it -/
theorem lcp {M : Nat} {G : GD} {Tt : TTD} {Te : TD} {vs : List Nat} {ε : Ev} {Pl : List Dat → Prop} {ds : List Dat} (g : Dat → Option Dat) (hl : ds.length ≤ M)
    (h : ∀ d ∈ ds, ∀ R : Option Dat → Prop, R (g d) → G d (wipeD ε vs) fun ε2 => Tt ε2 fun b => if b = true then Te ε2 fun y => R (some y) else R none) (hP : Pl (ds.filterMap g)) :
    ds.length ≤ M ∧ ∃ Iv : Nat → List Dat → Prop, Iv 0 [] ∧
      (∀ i d acc, ds[i]? = some d → Iv i acc → G d (wipeD ε vs) fun ε2 => Tt ε2 fun b => if b = true then Te ε2 fun y => Iv (i + 1) (acc ++ [y]) else Iv (i + 1) acc) ∧ ∀ acc, Iv ds.length acc → Pl acc := by
  refine ⟨hl, fun i acc => acc = (ds.take i).filterMap g, by simp, fun i d acc hd ha => ?_, fun acc ha => ?_⟩
  · subst ha
    have ht : ds.take (i + 1) = ds.take i ++ [d] := by rw [List.take_add_one, hd]; rfl
    have := h d (List.mem_of_getElem? hd) (fun o => (ds.take i).filterMap g ++ o.toList = (ds.take (i + 1)).filterMap g) (by
      rw [ht, List.filterMap_append]
      cases e : g d <;> simp [e])
    simpa using this
  · subst ha
    rw [List.take_length]
    exact hP
/-- .. over a list's images -/
theorem lcm {α : Type} {M : Nat} {G : GD} {Tt : TTD} {Te : TD} {vs : List Nat} {ε : Ev} {Pl : List Dat → Prop} {ds : List Dat} (l : List α) (F : α → Dat) (g : α → Option Dat) (hds : ds = l.map F) (hl : l.length ≤ M)
    (h : ∀ a ∈ l, ∀ R : Option Dat → Prop, R (g a) → G (F a) (wipeD ε vs) fun ε2 => Tt ε2 fun b => if b = true then Te ε2 fun y => R (some y) else R none) (hP : Pl (l.filterMap g)) :
    ds.length ≤ M ∧ ∃ Iv : Nat → List Dat → Prop, Iv 0 [] ∧
      (∀ i d acc, ds[i]? = some d → Iv i acc → G d (wipeD ε vs) fun ε2 => Tt ε2 fun b => if b = true then Te ε2 fun y => Iv (i + 1) (acc ++ [y]) else Iv (i + 1) acc) ∧ ∀ acc, Iv ds.length acc → Pl acc := by
  subst hds
  refine ⟨by simpa using hl, fun i acc => acc = (l.take i).filterMap g, by simp, fun i d acc hd ha => ?_, fun acc ha => ?_⟩
  · subst ha
    rw [List.getElem?_map] at hd
    cases e : l[i]? with
    | none => rw [e] at hd; cases hd
    | some a =>
      rw [e] at hd
      cases hd
      have ht : l.take (i + 1) = l.take i ++ [a] := by rw [List.take_add_one, e]; rfl
      have := h a (List.mem_of_getElem? e) (fun o => (l.take i).filterMap g ++ o.toList = (l.take (i + 1)).filterMap g) (by
        rw [ht, List.filterMap_append]
        cases e : g a <;> simp [e])
      simpa using this
  · subst ha
    rw [List.length_map, List.take_length]
    exact hP
theorem fm_if {α β : Type} (p : α → Bool) (f : α → β) (l : List α) : l.filterMap (fun x => if p x = true then some (f x) else none) = (l.filter p).map f := by
  induction l with
  | nil => rfl
  | cons a l ih =>
    by_cases h : p a = true
    · simp [h, ih]
    · simp [h, ih]
section
variable {α : Type} {M : Nat} {T Te : TD} {U : TAD} {G : GD} {Ts : TSD} {Tt : TTD} {E : DE} {ε : Ev} {ds : List Dat} {vs : List Nat} {P : Dat → Prop}
theorem for_tup (hT : ∀ P : Dat → Prop, P (.tup ds) → T ε P) (hl : ds.length ≤ M) (Iv : Nat → Ev → Prop) (h0 : Iv 0 ε) (hs : ∀ i d ε', ds[i]? = some d → Iv i ε' → G d ε' fun ε2 => Ts { E with nx := Iv (i + 1), ct := Iv (i + 1), bk := E.nx } ε2) (hd : ∀ ε', Iv ds.length ε' → E.nx ε') : sFor M (iT T) G Ts E ε := hT _ ⟨ds, rfl, hl, Iv, h0, hs, hd⟩
theorem for_lst (hT : ∀ P : Dat → Prop, P (.lst ds) → T ε P) (hl : ds.length ≤ M) (Iv : Nat → Ev → Prop) (h0 : Iv 0 ε) (hs : ∀ i d ε', ds[i]? = some d → Iv i ε' → G d ε' fun ε2 => Ts { E with nx := Iv (i + 1), ct := Iv (i + 1), bk := E.nx } ε2) (hd : ∀ ε', Iv ds.length ε' → E.nx ε') : sFor M (iL T) G Ts E ε := hT _ ⟨ds, rfl, hl, Iv, h0, hs, hd⟩
theorem for_en {d : Dat} (hT : ∀ P : List Dat → Prop, P [d] → U ε P) (hd0 : d = .lst ds ∨ d = .tup ds) (hl : ds.length ≤ M) (Iv : Nat → Ev → Prop) (h0 : Iv 0 ε) (hs : ∀ i d ε', ds[i]? = some d → Iv i ε' → G (.tup [.int (i : Nat), d]) ε' fun ε2 => Ts { E with nx := Iv (i + 1), ct := Iv (i + 1), bk := E.nx } ε2) (hd : ∀ ε', Iv ds.length ε' → E.nx ε') : sFor M (iEn U) G Ts E ε :=
  hT _ ⟨d, ds, rfl, hd0, by rw [enumD_len]; exact hl, Iv, h0, fun i e ε' h1 h2 => by
    rw [enumD_get] at h1
    cases q : ds[i]? with
    | none => rw [q] at h1; cases h1
    | some d' => rw [q] at h1; cases h1; exact hs i d' ε' q h2, by rw [enumD_len]; exact hd⟩
theorem for_r1 {n : Nat} (hT : ∀ P : List Dat → Prop, P [.int (n : Int)] → U ε P) (hl : n ≤ M) (hM : n ≤ 100000) (Iv : Nat → Ev → Prop) (h0 : Iv 0 ε) (hs : ∀ i ε', i < n → Iv i ε' → G (.int (i : Int)) ε' fun ε2 => Ts { E with nx := Iv (i + 1), ct := Iv (i + 1), bk := E.nx } ε2) (hd : ∀ ε', Iv n ε' → E.nx ε') : sFor M (iR1 U) G Ts E ε := by
  refine hT _ ⟨n, rfl, by omega, by omega, by simp [rngD]; exact hl, Iv, h0, fun i e ε' h1 h2 => ?_, by simp [rngD]; exact hd⟩
  have hi : i < n := by
    have := (List.getElem?_eq_some_iff.mp h1).1
    simpa [rngD] using this
  have : e = .int (i : Int) := by
    simp [rngD, hi] at h1
    rw [← h1]
  subst this
  exact hs i ε' hi h2
theorem lc_tup (l : List α) (F : α → Dat) (g : α → Option Dat) (hT : ∀ P : Dat → Prop, P (.tup (l.map F)) → T ε P) (hl : l.length ≤ M)
    (h : ∀ a ∈ l, ∀ R : Option Dat → Prop, R (g a) → G (F a) (wipeD ε vs) fun ε2 => Tt ε2 fun b => if b = true then Te ε2 fun y => R (some y) else R none) (hP : P (.lst (l.filterMap g))) : dLc M (iT T) G Tt Te vs ε P :=
  hT _ ⟨_, rfl, lcm (Pl := fun a => P (.lst a)) l F g rfl hl h hP⟩
theorem lc_lst (l : List α) (F : α → Dat) (g : α → Option Dat) (hT : ∀ P : Dat → Prop, P (.lst (l.map F)) → T ε P) (hl : l.length ≤ M)
    (h : ∀ a ∈ l, ∀ R : Option Dat → Prop, R (g a) → G (F a) (wipeD ε vs) fun ε2 => Tt ε2 fun b => if b = true then Te ε2 fun y => R (some y) else R none) (hP : P (.lst (l.filterMap g))) : dLc M (iL T) G Tt Te vs ε P :=
  hT _ ⟨_, rfl, lcm (Pl := fun a => P (.lst a)) l F g rfl hl h hP⟩
theorem lc_r1 {n : Nat} (g : Nat → Option Dat) (hT : ∀ P : List Dat → Prop, P [.int (n : Int)] → U ε P) (hl : n ≤ M) (hM : n ≤ 100000)
    (h : ∀ a, a < n → ∀ R : Option Dat → Prop, R (g a) → G (.int (a : Int)) (wipeD ε vs) fun ε2 => Tt ε2 fun b => if b = true then Te ε2 fun y => R (some y) else R none) (hP : P (.lst ((List.range n).filterMap g))) : dLc M (iR1 U) G Tt Te vs ε P :=
  hT _ ⟨n, rfl, by omega, by omega, lcm (Pl := fun a => P (.lst a)) (List.range n) (fun (i : Nat) => .int (i : Int)) g (by simp [rngD]) (by simpa using hl) (fun a ha => h a (List.mem_range.mp ha)) hP⟩
theorem lc_en {d : Dat} {xs : List Dat} (l : List α) (F : α → Dat) (g : α → Option Dat) (hT : ∀ P : List Dat → Prop, P [d] → U ε P) (hd0 : d = .lst xs ∨ d = .tup xs) (he : enumD xs = l.map F) (hl : l.length ≤ M)
    (h : ∀ a ∈ l, ∀ R : Option Dat → Prop, R (g a) → G (F a) (wipeD ε vs) fun ε2 => Tt ε2 fun b => if b = true then Te ε2 fun y => R (some y) else R none) (hP : P (.lst (l.filterMap g))) : dLc M (iEn U) G Tt Te vs ε P :=
  hT _ ⟨d, xs, rfl, hd0, lcm (Pl := fun a => P (.lst a)) l F g he hl h hP⟩
end
theorem SIs.cost {C : Addr} {X : Cx} {c c1 : Nat} {st : List Stmt} {T : TID0} (h : SIs C X c st T) (hc : c ≤ c1) : SIs C X c1 st T := pss_weak h fun D σ H ⟨A, B, F, ε, P, n, p, dx, fs, xs, r, bx, hn, h0, hA, hF, hB, hp, hk, hv, t, k⟩ =>
  ⟨A, B, F, ε, P, n, p, dx, fs, xs, r, bx, by omega, h0, hA, hF, hB, hp, hk, hv, t, fun F' H' σ' dx' fs' xs' g => k F' H' σ' dx' fs' xs' (g.mono hc)⟩
@[simp] theorem u_startO {p : Addr} {N : List Str} {ds : List Dat} : startO p N ds = .raw (.ref p) :: (ds.map .val ++ List.replicate (N.length - (ds.length + 1)) .off) := rfl
theorem fm_const {α β : Type} (c : β) (l : List α) : l.filterMap (fun _ => some c) = List.replicate l.length c := by
  induction l with
  | nil => rfl
  | cons a l ih => simp [ih, List.replicate_succ]
theorem fm_map {α β : Type} (f : α → β) (l : List α) : l.filterMap (fun x => some (f x)) = l.map f := by
  induction l with
  | nil => rfl
  | cons a l ih => simp [ih]
@[simp] theorem blsD_rep {n : Nat} {b : Bool} : blsD (List.replicate n (Dat.bl b)) = some (List.replicate n b) := by
  have := DL.bls_map (List.replicate n b)
  rwa [List.map_replicate] at this
@[simp] theorem all_rep {n : Nat} : (List.replicate n true).all _root_.id = true := by simp
end DL
set_option maxRecDepth 100000
set_option maxHeartbeats 2000000
/-! DL15: the cell that gives digits: reads, stores. -/
namespace DL
open PySem PySem.Spec PyProof.Rows L2 RZ
variable [TabC]
section
variable {X : Cx} {e : Expr} {pos px tpos : Pos} {x : Str} {c : Nat} {i : Nat} {T : TD} {j1 : Nat} {jp : Pos}
/-- what a cell's place may hold -/
def boxR : Nat → (Dat → Prop) → Prop
  | 0, P => ∀ g : Int, 0 ≤ g → P (.int g)
  | 1, P => ∀ b : Bool, P (.bl b)
  | 2, P => ∀ m : Int, 0 ≤ m → m < 2147483647 → P (.int m)
  | 3, P => ∀ l : Int, 0 ≤ l → l ≤ CAP → P (.int l)
  | _, _ => False
def dBox (i : Nat) (k : Nat) : TD := fun ε P => ε[i]? = some (.val .cell) ∧ boxR k P
theorem cell_at {A : Addr → Prop} {B : BB} {F H : Hp} {σ : L2.St} {ε : Ev} {n : Nat} (r : Rs A B F H σ ε) (bx : BoxAt B H n) (h : ε[i]? = some (.val .cell)) : ∃ b vs, B.bx = some b ∧ σ[i]? = some (some (.ref b)) ∧ H b = some (.lst vs) ∧ BoxV vs n := by
  obtain ⟨v, h1, h2⟩ := r.val i _ h
  cases h2 with
  | cell hb =>
    obtain ⟨vs, h3, h4⟩ := bx.1 _ hb
    exact ⟨_, vs, hb, h1, h3, h4⟩
theorem pd_box {k : Nat} (hx : PE X (.Name x px) (tVar i)) (hk : k < 4) (hs : PlainIx (.Constant (.int (k : Int)) j1 jp) := by exact fun _ _ => rfl) : PD .rep X 0 (.Subscript (.Name x px) (.Constant (.int (k : Int)) j1 jp) pos) (dBox i k) :=
  pe_weak (pe_ix ix_list hx pe_int hs) fun σ H Q ⟨A, B, F, ε, P, n, r, bx, hn, ⟨h0, t⟩, kk⟩ => by
    obtain ⟨b, vs, hb, h1, h2, g, q, m, l, e, a1, a2, a3, a4, a5⟩ := cell_at r bx h0
    subst e
    refine ⟨_, h1, ?_⟩
    match k, hk with
    | 0, _ => exact ⟨b, _, 0, .int g, rfl, rfl, SqL.of h2, rfl, kk _ F H _ (Gr.refl r.ex) .int (t g a1)⟩
    | 1, _ => exact ⟨b, _, 1, .bl q, rfl, rfl, SqL.of h2, rfl, kk _ F H _ (Gr.refl r.ex) .bl (t q)⟩
    | 2, _ => exact ⟨b, _, 2, .int m, rfl, rfl, SqL.of h2, rfl, kk _ F H _ (Gr.refl r.ex) .int (t m a2 a3)⟩
    | 3, _ => exact ⟨b, _, 3, .int l, rfl, rfl, SqL.of h2, rfl, kk _ F H _ (Gr.refl r.ex) .int (t l a4 (by omega))⟩
theorem box_write {A : Addr → Prop} {B : BB} {F H : Hp} {σ : L2.St} {ε : Ev} {n n' : Nat} {b : Addr} {vs : List L2.V} (r : Rs A B F H σ ε) (hb : B.bx = some b) (hv : BoxV vs n') (hn : ∀ k, BoxAt B H k → BoxAt B (upd H b (.lst vs)) (k + (n' - n))) :
    Rs A B F (upd H b (.lst vs)) σ ε ∧ Gr A B (n' - n) F H F (upd H b (.lst vs)) := by
  obtain ⟨f1, f2, o, f3⟩ := r.bx b (.inl hb)
  have ex : Ex F (upd H b (.lst vs)) := r.ex.mut f1
  refine ⟨⟨ex, r.len, r.val, fun j d q => ?_, r.sep, fun a ha => ?_, fun a ha => ?_, r.raw⟩, ⟨.refl _, ex, fun a u h => .inl h, fun a u h nb _ => ?_, fun a u h => ?_, hn⟩⟩
  · obtain ⟨p, h1, h2, w⟩ := r.own j d q
    obtain ⟨o2, h3, h4⟩ := w.con
    have ne : p ≠ b := fun z => f2 (z ▸ h2)
    exact ⟨p, h1, h2, w.out, w.nb, o2, by rw [upd_ne ne]; exact h3, h4⟩
  · obtain ⟨g1, g2, u, g3⟩ := r.bx a ha
    by_cases z : a = b
    · exact ⟨g1, g2, .lst vs, by rw [z, upd_same]⟩
    · exact ⟨g1, g2, u, by rw [upd_ne z]; exact g3⟩
  · refine r.new a ?_
    by_cases z : a = b
    · subst z; rw [upd_same] at ha; cases ha
    · rwa [upd_ne z] at ha
  · have ne : a ≠ b := fun z => nb (.inl (by rw [z]; exact hb))
    rw [upd_ne ne]
    exact h
  · by_cases z : a = b
    · subst z; exact ⟨_, upd_same⟩
    · exact ⟨u, by rw [upd_ne z]; exact h⟩
/-- the table stays where the cell is written -/
theorem box_tab {B : BB} {H : Hp} {b : Addr} {vs ws : List L2.V} (h3 : H b = some (.lst ws)) {n : Nat} (h : BoxAt B H n) : ∀ P, TabC.tb = some P → LamX.TabS (upd H b (.lst vs)) P TabC.q := fun P hP => by
  have t := h.2 P hP
  refine tab_write t (fun z => ?_) (fun φ z => by rw [h3] at z; cases z)
  obtain ⟨ps, e, _⟩ := t
  rw [z, h3] at e
  cases e
/-- box[0] = e -/
def sBox0 (i : Nat) (T : TD) : TSD := fun E ε => T ε fun d => ∃ g : Int, d = .int g ∧ 0 ≤ g ∧ ε[i]? = some (.val .cell) ∧ E.nx ε
theorem sd_box0 (hx : PE X (.Name x px) (tVar i)) (he : PD .rep X c e T)
    (ha : ∀ v, assign (.Subscript (.Name x px) (.Constant (.int 0) j1 jp) tpos) X.env v = (do
      let ov ← holding [v] (eval (.Name x px) X.env)
      let iv ← holding [v, ov] (eval (.Constant (.int 0) j1 jp) X.env)
      standAt tpos
      holding [v, ov, iv] (setItem ov iv v)
      release [v, ov, iv] []) := by intro _; rfl)
    (hs : swapsWithSole [.Subscript (.Name x px) (.Constant (.int 0) j1 jp) tpos] e pos.line X.env = pure false := by rfl) (hw : swappedStores [.Subscript (.Name x px) (.Constant (.int 0) j1 jp) tpos] e X.env = pure none := by rfl)
    (h1 : (assignEach [.Subscript (.Name x px) (.Constant (.int 0) j1 jp) tpos] X.env).map (·.2) = [assign (.Subscript (.Name x px) (.Constant (.int 0) j1 jp) tpos) X.env] := by rfl) : SD X c (.Assign [.Subscript (.Name x px) (.Constant (.int 0) j1 jp) tpos] e pos) (sBox0 i T) :=
  ps_weak (ps_asg he (pg_sub hx pe_int set_list ha) hs hw h1) fun D σ H ⟨A, B, F, ε, E, n, r, bx, hn, t, k1, _⟩ =>
    ⟨A, B, F, ε, _, n, r, bx, hn, t, fun v F1 H1 d g1 q1 ⟨g', e1, h0, hc, p⟩ => by
      subst e1
      cases q1
      have r1 := r.gr g1
      obtain ⟨b, vs, hb, h2, h3, g, q, m, l, e, a1, a2, a3, a4, a5⟩ := cell_at r1 (g1.box n bx) hc
      subst e
      refine ⟨_, h2, b, _, 0, 0, rfl, rfl, h3, rfl, ?_⟩
      have hv : BoxV [.int g', .bl q, .int m, .int l] (n + c) := ⟨g', q, m, l, rfl, h0, a2, a3, a4, a5⟩
      obtain ⟨r2, g2⟩ := box_write (n := n + c) (n' := n + c) r1 hb hv fun k hk => by
        refine ⟨fun a ha => ?_, box_tab h3 hk⟩
        rw [hb] at ha
        cases ha
        obtain ⟨ws, w1, g0, q0, m0, l0, w2, w3, w4, w5, w6, w7⟩ := hk.1 b hb
        rw [h3] at w1
        cases w1
        cases w2
        exact ⟨_, upd_same, g', _, _, _, rfl, h0, w4, w5, w6, by omega⟩
      exact k1 F1 _ σ ε ((g1.any.trans g2).mono (by omega)) r2 p⟩
/-- box[3] = box[3] + 1 -/
def sBox3 (i : Nat) : TSD := fun E ε => ε[i]? = some (.val .cell) ∧ E.nx ε
theorem sd_box3 {x2 : Str} {px2 tpos2 bpos jp2 jp3 : Pos} {j2 j3 : Nat} (hx : PE X (.Name x px) (tVar i)) (hx2 : PE X (.Name x2 px2) (tVar i))
    (ha : ∀ v, assign (.Subscript (.Name x px) (.Constant (.int 3) j1 jp) tpos) X.env v = (do
      let ov ← holding [v] (eval (.Name x px) X.env)
      let iv ← holding [v, ov] (eval (.Constant (.int 3) j1 jp) X.env)
      standAt tpos
      holding [v, ov, iv] (setItem ov iv v)
      release [v, ov, iv] []) := by intro _; rfl)
    (hs : swapsWithSole [.Subscript (.Name x px) (.Constant (.int 3) j1 jp) tpos] (.BinOp (.Subscript (.Name x2 px2) (.Constant (.int 3) j2 jp2) tpos2) .Add (.Constant (.int 1) j3 jp3) bpos) pos.line X.env = pure false := by rfl)
    (hw : swappedStores [.Subscript (.Name x px) (.Constant (.int 3) j1 jp) tpos] (.BinOp (.Subscript (.Name x2 px2) (.Constant (.int 3) j2 jp2) tpos2) .Add (.Constant (.int 1) j3 jp3) bpos) X.env = pure none := by rfl)
    (h1 : (assignEach [.Subscript (.Name x px) (.Constant (.int 3) j1 jp) tpos] X.env).map (·.2) = [assign (.Subscript (.Name x px) (.Constant (.int 3) j1 jp) tpos) X.env] := by rfl) :
    SD X 1 (.Assign [.Subscript (.Name x px) (.Constant (.int 3) j1 jp) tpos] (.BinOp (.Subscript (.Name x2 px2) (.Constant (.int 3) j2 jp2) tpos2) .Add (.Constant (.int 1) j3 jp3) bpos) pos) (sBox3 i) :=
  ps_weak (ps_asg (pe_op op_add (pe_ix ix_list hx2 pe_int (fun _ _ => rfl)) pe_int) (pg_sub hx pe_int set_list ha) hs hw h1) fun D σ H ⟨A, B, F, ε, E, n, r, bx, hn, ⟨hc, p⟩, k1, _⟩ => by
    obtain ⟨b, vs, hb, h2, h3, g, q, m, l, e, a1, a2, a3, a4, a5⟩ := cell_at r bx hc
    subst e
    refine ⟨_, h2, b, _, 3, .int l, rfl, rfl, SqL.of h3, rfl, l, 1, rfl, rfl, _, h2, b, _, 3, 3, rfl, rfl, h3, rfl, ?_⟩
    have hv : BoxV [.int g, .bl q, .int m, .int (l + 1)] (n + 1) := ⟨g, q, m, l + 1, rfl, a1, a2, a3, by omega, by omega⟩
    obtain ⟨r2, g2⟩ := box_write (n := n) (n' := n + 1) r hb hv fun k hk => by
      refine ⟨fun a ha => ?_, box_tab h3 hk⟩
      rw [hb] at ha
      cases ha
      obtain ⟨ws, w1, g0, q0, m0, l0, w2, w3, w4, w5, w6, w7⟩ := hk.1 b hb
      rw [h3] at w1
      cases w1
      cases w2
      exact ⟨_, upd_same, _, _, _, _, rfl, w3, w4, w5, by omega, by omega⟩
    exact k1 F _ σ ε (g2.mono (by omega)) r2 p
@[simp] theorem u_dBox {k : Nat} {ε : Ev} {P : Dat → Prop} : dBox i k ε P = (ε[i]? = some (.val .cell) ∧ boxR k P) := rfl
@[simp] theorem u_sBox0 {E : DE} {ε : Ev} : sBox0 i T E ε = T ε fun d => ∃ g : Int, d = .int g ∧ 0 ≤ g ∧ ε[i]? = some (.val .cell) ∧ E.nx ε := rfl
@[simp] theorem u_sBox3 {E : DE} {ε : Ev} : sBox3 i E ε = (ε[i]? = some (.val .cell) ∧ E.nx ε) := rfl
@[simp] theorem u_b0 {P : Dat → Prop} : boxR 0 P = ∀ g : Int, 0 ≤ g → P (.int g) := rfl
@[simp] theorem u_b1 {P : Dat → Prop} : boxR 1 P = ∀ b : Bool, P (.bl b) := rfl
@[simp] theorem u_b2 {P : Dat → Prop} : boxR 2 P = ∀ m : Int, 0 ≤ m → m < 2147483647 → P (.int m) := rfl
@[simp] theorem u_b3 {P : Dat → Prop} : boxR 3 P = ∀ l : Int, 0 ≤ l → l ≤ CAP → P (.int l) := rfl
end
end DL
set_option maxRecDepth 100000
set_option maxHeartbeats 4000000
/-! DS1: sorted(xs, key=lambda row: row[0]). -/
namespace DS
open PySem PySem.Spec PyProof.Rows L2 LamX
section
variable {X : Cx} {pins : List (Addr × Obj)} {σ : L2.St} {H : Hp} {s : Shared}
/-- the lambda's object -/
abbrev lamO (q : Str) (params : Arguments) (body : Expr) (scope : Scope) (pm : Value) (c' : Addr) (ctv : Value) : Obj := PySem.W.kla_obj "<lambda>" q params body scope [] pm c' ctv
/-- f(u): the first part of a tuple -/
theorem lam_call {f c' t : Addr} {q : Str} {params : Arguments} {scope : Scope} {pm ctv : Value} {j : Nat} {p1 p2 p3 : Pos} {k : Int} {rest : List V} (I : Inv X pins σ H s) (S : FnScope ["row"] ["row"] scope)
    (hf : s.heap.get? f = some (lamO q params (.Subscript (.Name "row" p1) (.Constant (.int 0) j p2) p3) scope pm c' ctv)) (hc : H c' = some (CodeO c' q))
    (hbind : ∀ (cv u : Value), bindArgs (PySem.W.kla_fn "<lambda>" q params (.Subscript (.Name "row" p1) (.Constant (.int 0) j p2) p3) scope [] pm cv ctv) ⟨[u], []⟩ = pure [(("row" : Str), u)])
    (hr : Room 1 X.A.in1.in1) (ht : SqT X.K H t (.int k :: rest)) :
    wpAny (model X.prog X.w) X.A.in1.in1 (call (.ref f) [.ref t]) (EP X pins σ fun v H' => v = .int k ∧ H' = H) (fun _ _ => False) s := by
  obtain ⟨⟨oc, vs, tq, hoc, hdc, hvc⟩, _, _⟩ := I.hok c' _ hc
  have e0 : Env0 X.prog X.w X.K X.mg X.base X.A.in1.in1 X.stack s H := I.env0.in1.in1
  have lim : s.heap.NoLimit := I.nolimit
  have hv : Vis scope "row" := (S.par "row" (by simp)).elim .inl fun z => .inr (.inl z)
  have hk2 : ∀ y ∈ (["row"] : List Str).zip [Value.ref t], scope.names.lookup y.1 = some .local ∨ (scope.names.lookup y.1 = some .cell ∧ ((cellsFrom (s.heap.objs.size + 1) scope.names []).lookup y.1).isSome = true) := fun ⟨n, v⟩ hy => by
    rcases S.par n (List.of_mem_zip hy).1 with z | z
    · exact .inl z
    · exact .inr ⟨z, PySem.W.cellsFrom_some _ _ _ (.inl z)⟩
  have rc : codeAny (model X.prog X.w) X.A.in1.in1 (.call (.ref f) ⟨[.ref t], []⟩) (CR C8.CX0 X.stack X.prog X.w H s (fun v H' => v = .int k ∧ H' = H) C8.E0) s := by
    refine PySem.W.kla_callFunE hr.depth hf rfl S.co S.gen rfl ⟨c', oc, vs, tq, rfl, hoc, hdc, hvc⟩ ?_
    rw [hbind]
    refine wpAny_pure (wpAny_newFunctionEnv_cells (binds := (["row"] : List Str).zip [Value.ref t]) S.kind hk2 fun env he s1 x => ?_)
    subst he
    have J := inv_start (CX := C8.CX0) (E := C8.E0) (vs := [.ref t]) S hr.hd e0 rfl (.cons rfl .nil) x
    refine ⟨lim.keeps x.toInCall.keep, PySem.W.kla_codeExpr (wpAny_mono ((pe_ix ix_tup (pe_var (i := 0) rfl hv) pe_int (fun _ _ => rfl)).run [] s1 (L2.start ["row"] [.ref t]) H (fun v H' => v = .int k ∧ H' = H) J ?_) (fun v s' hq => ?_) fun e s' hq => hq)⟩
    · exact ⟨_, rfl, t, _, 0, .int k, rfl, rfl, ht, atI_nat (j := 0) rfl, rfl, rfl⟩
    · obtain ⟨w', H', J', rv, z⟩ := hq
      exact ⟨w', H', J'.os, J'.bare, J'.base, J'.hok, rv, z⟩
  refine wpAny_call (codeAny_mono rc fun r s' hq => ?_)
  cases r with
  | error e => exact (show False from hq).elim
  | ok fl =>
    cases fl with
    | ret u => exact I.after hq
    | next => exact False.elim hq
    | brk => exact False.elim hq
    | cont => exact False.elim hq
end
end DS
set_option maxRecDepth 100000
set_option maxHeartbeats 4000000
/-! DS2: the sort by keys that are got by calls. -/
namespace DS
open PySem PySem.Spec PyProof.Rows L2 LamX
/-- values beside keys, put in another order -/
theorem perm_lift {vs : List Value} {kz : List Int} {xs : List V} (r : Vals xs vs) : ∀ {ps : List (Int × Value)}, ps.Perm (kz.zip vs) → ∃ qs : List (Int × V), qs.Perm (kz.zip xs) ∧ qs.map (·.1) = ps.map (·.1) ∧ Vals (qs.map (·.2)) (ps.map (·.2)) := by
  have base : ∀ {kz : List Int} {xs : List V} {vs : List Value}, Vals xs vs → ((kz.zip xs).map (·.1) = (kz.zip vs).map (·.1)) ∧ Vals ((kz.zip xs).map (·.2)) ((kz.zip vs).map (·.2)) := by
    intro kz
    induction kz with
    | nil => intro xs vs _; exact ⟨rfl, .nil⟩
    | cons k kz ih =>
      intro xs vs r
      cases r with
      | nil => exact ⟨rfl, .nil⟩
      | cons h t =>
        obtain ⟨i1, i2⟩ := ih t
        exact ⟨by simp only [List.zip_cons_cons, List.map_cons, i1], .cons h i2⟩
  have move : ∀ {as bs : List (Int × Value)}, as.Perm bs → ∀ {zs : List (Int × V)}, zs.map (·.1) = bs.map (·.1) → Vals (zs.map (·.2)) (bs.map (·.2)) → ∃ qs : List (Int × V), qs.Perm zs ∧ qs.map (·.1) = as.map (·.1) ∧ Vals (qs.map (·.2)) (as.map (·.2)) := by
    intro as bs p
    induction p with
    | nil => intro zs e v; exact ⟨zs, .refl _, e, v⟩
    | cons a p ih =>
      intro zs e v
      cases zs with
      | nil => simp at e
      | cons z zs =>
        simp only [List.map_cons, List.cons.injEq] at e
        simp only [List.map_cons] at v
        cases v with
        | cons v1 v2 =>
          obtain ⟨qs, i1, i2, i3⟩ := ih e.2 v2
          exact ⟨z :: qs, i1.cons z, by simp only [List.map_cons, e.1, i2], .cons v1 i3⟩
    | swap a b l =>
      intro zs e v
      match zs, e, v with
      | z1 :: z2 :: zs, e, v =>
        simp only [List.map_cons, List.cons.injEq] at e
        simp only [List.map_cons] at v
        cases v with
        | cons v1 v2 =>
          cases v2 with
          | cons v2 v3 => exact ⟨z2 :: z1 :: zs, .swap _ _ _, by simp only [List.map_cons, e.1, e.2.1, e.2.2], .cons v2 (.cons v1 v3)⟩
      | [z1], e, v => simp at e
      | [], e, v => simp at e
    | trans p q i1 i2 =>
      intro zs e v
      obtain ⟨qs, a1, a2, a3⟩ := i2 e v
      obtain ⟨rs, b1, b2, b3⟩ := i1 a2 a3
      exact ⟨rs, b1.trans a1, b2, b3⟩
  intro ps p
  obtain ⟨b1, b2⟩ := base (kz := kz) r
  exact move p b1 b2
section
variable {X : Cx} {pins : List (Addr × Obj)} {σ : L2.St} {H : Hp} {s : Shared} {D kS a f : Addr} {keys : Array Value} {e e1 : Nat} {vs : List Value} {kz : List Int} {xs : List V} {Ex : Value → Shared → Prop}
/-- one record of ours is written: its pin is dropped, the others stay -/
theorem turn_pin {t' : Nat} {h' : Heap} {p1 : List (Addr × Obj)} {it : Addr} {o : Obj} (I : Inv X (p1 ++ [(it, o)]) σ H s) (fk : FpOk X p1 H it) (k : Heap.SameBut it s.heap h') : Inv X p1 σ H { s with heap := h', toks := t' } := by
  have I1 : Inv X p1 σ H s := I.unpinned
  exact I1.turned (fun b o hb q => (k.2 b hb).trans q) fk.1 fk.2.1 fk.2.2.2.1 fk.2.2.2.2.1 fk.2.2.2.2.2
theorem add_pin {p1 : List (Addr × Obj)} {it : Addr} {o : Obj} (I : Inv X p1 σ H s) (fk : FpOk X p1 H it) (g : s.heap.get? it = some o) (nc : ∀ v, o.data ≠ .cell v) : Inv X (p1 ++ [(it, o)]) σ H s :=
  I.pins_of fun p hp => (List.mem_append.mp hp).elim (fun z => I.pin p (List.mem_append_right _ z)) fun z => by
    obtain rfl := List.mem_singleton.mp z
    exact ⟨g, fk.1, fk.2.1, fk.2.2.1, nc⟩
theorem seq_nocell {T : String} {arr : Array Value} {n : Nat} : ∀ v, (seqObj T arr n).data ≠ .cell v := fun v z => by cases z
/-- what becomes of the sorted list -/
def SortEnd (X : Cx) (p1 : List (Addr × Obj)) (σ : L2.St) (H : Hp) (D : Addr) (kz : List Int) (vs : List Value) (s' : Shared) : Prop := ∃ out c, Inv X p1 σ H s' ∧ s'.heap.get? D = some (seqObj "list" out c) ∧ KskOut false kz vs out.toList
theorem tail_run {P : PySem.Fin → Shared → Prop} {st : SortSt} (I : Inv X (pins ++ [(D, seqObj "list" #[] e1)] ++ [(kS, seqObj "list" keys e)]) σ H s) (hkD : kS ≠ D) (fk : FpOk X (pins ++ [(D, seqObj "list" #[] e1)]) H kS) (fD : FpOk X pins H D)
    (hk : IntsAre keys.toList kz) (hlen : kz.length = vs.length) (h64 : vs.length < 64) (hp : (arrOf st).Perm (keys.zip vs.toArray)) (hs : SortedTo (arrOf st) (arrOf st).size) (hfl : failedOf st = none)
    (h : ∀ s', SortEnd X pins σ H D kz vs s' → P (.done (.ret .none)) s') : wpAny (model X.prog X.w) X.A.in1.in1 (ksk_tail D false e1 (.ref kS) st) P Ex s := by
  have g1 := (I.pin (kS, seqObj "list" keys e) (by simp)).1
  have g2 := (I.pin (D, seqObj "list" #[] e1) (by simp)).1
  have z1 := hk.length
  rw [Array.length_toList] at z1
  have z0 : keys.size = vs.length := z1.trans hlen
  have z2 : (arrOf st).size = vs.length := by rw [hp.size_eq, Array.size_zip, z0, List.size_toArray, Nat.min_self]
  have b1 := Heap.SameBut.update s.heap kS (Obj.mapSeq fun _ => (#[] : Array Value))
  have I1 := turn_pin (t' := s.toks) I fk b1
  have g3 : (s.heap.update kS (Obj.mapSeq fun _ => (#[] : Array Value))).get? D = some (seqObj "list" #[] e1) := (b1.2 D hkD.symm).trans g2
  have b2 := Heap.SameBut.update (s.heap.update kS (Obj.mapSeq fun _ => (#[] : Array Value))) D (Obj.mapSeq fun _ => (arrOf st).map (·.2))
  have I2 := turn_pin (t' := s.toks) I1 fD b2
  have g4 := get?_update_seq g3 fun _ => (arrOf st).map (·.2)
  unfold ksk_tail
  try dsimp only
  refine wpAny_bind (listUpdate_at g1 rfl (wpAny_bind (wpAny_letGo (wpAny_bind (seqEpoch_at g3 rfl (wpAny_bind (listUpdate_at g3 rfl ?_ (Nat.zero_le _) ?_)))))) ?_ (Nat.zero_le _))
  · rw [hfl]
    simp only [bne_self_eq_false, Bool.false_eq_true, if_false]
    exact wpAny_pure (h _ ⟨_, _, I2, g4, ksk_out (b := false) hk hp hs⟩)
  · show (if false = true then _ else (arrOf st).map (·.2)).size ≤ _
    rw [if_neg Bool.false_ne_true, Array.size_map, z2, sizeLine_eq]
    omega
  · rw [z0, sizeLine_eq]
    omega
theorem end_run {P : PySem.Fin → Shared → Prop} (I : Inv X (pins ++ [(D, seqObj "list" #[] e1)] ++ [(kS, seqObj "list" keys e)]) σ H s) (hkD : kS ≠ D) (fk : FpOk X (pins ++ [(D, seqObj "list" #[] e1)]) H kS) (fD : FpOk X pins H D)
    (hk : IntsAre keys.toList kz) (hlen : kz.length = vs.length) (h64 : vs.length < 64)
    (h : ∀ s', SortEnd X pins σ H D kz vs s' → P (.done (.ret .none)) s') : wpAny (model X.prog X.w) X.A.in1.in1 (ksk_end D false vs.toArray e1 (.ref kS) keys) P Ex s := by
  have z1 := hk.length
  rw [Array.length_toList] at z1
  have z0 : keys.size = vs.length := z1.trans hlen
  have z2 : (keys.zip vs.toArray).size = vs.length := by rw [Array.size_zip, z0, List.size_toArray, Nat.min_self]
  unfold ksk_end
  try dsimp only
  rw [if_neg Bool.false_ne_true]
  by_cases h2 : vs.toArray.size < 2
  · rw [if_pos h2, if_pos h2]
    refine wpAny_bind (wpAny_pure ?_)
    rw [StateT.run_pure]
    refine wpAny_bind (wpAny_pure ?_)
    try dsimp only
    refine tail_run (st := SortSt.mk' general' (keys.zip vs.toArray) #[] 7 none) I hkD fk fD hk hlen h64 (Array.Perm.refl _) (fun i j hij hj => ?_) rfl h
    have hj2 : j < (keys.zip vs.toArray).size := hj
    rw [z2] at hj2
    rw [List.size_toArray] at h2
    have : i = j := by omega
    subst this
    exact Int.le_refl _
  · rw [if_neg h2, if_neg h2]
    rw [List.size_toArray] at h2
    rw [ksk_kind hk (by rw [z0]; omega)]
    refine wpAny_bind (wpAny_pure (wpAny_bind (wpAny_mono (wpS_sortRuns (a₀ := keys.zip vs.toArray) (st := SortSt.mk' oneType' (keys.zip vs.toArray) #[] 7 none) (Q := fun _ st' => (arrOf st').Perm (keys.zip vs.toArray) ∧ failedOf st' = none ∧ SortedTo (arrOf st') (keys.zip vs.toArray).size)
      (ksk_intKeys hk) ⟨Array.Perm.refl _, rfl, rfl, rfl⟩ (by rw [z2]; omega) (by rw [z2]; exact h64) fun st' a1 a2 a3 => ⟨a1, a2, a3⟩) ?_ fun _ _ e => e)))
    rintro ⟨⟨⟩, st'⟩ s' ⟨rfl, hp, hf, hs⟩
    try dsimp only
    exact tail_run I hkD fk fD hk hlen h64 hp (by rw [hp.size_eq]; exact hs) hf h
end
end DS
set_option maxRecDepth 100000
set_option maxHeartbeats 4000000
/-! DS3: sorted by a key, called. -/
namespace DS
open PySem PySem.Spec PyProof.Rows L2 LamX
section
variable {X : Cx} {pins : List (Addr × Obj)} {σ : L2.St} {H : Hp} {s : Shared} {D kS a f : Addr} {e e1 : Nat} {vs : List Value} {kz : List Int} {xs : List V} {Ex : Value → Shared → Prop}
/-- a call for each key, whatever else is pinned -/
def Calls1 (X : Cx) (pins : List (Addr × Obj)) (σ : L2.St) (H : Hp) (f : Addr) : Prop := ∀ (more : List (Addr × Obj)) (s' : Shared) (t : Addr) (k : Int) (rest : List V), Inv X (pins ++ more) σ H s' → SqT X.K H t (.int k :: rest) →
  wpAny (model X.prog X.w) X.A.in1.in1 (call (.ref f) [.ref t]) (EP X (pins ++ more) σ fun v H' => v = .int k ∧ H' = H) (fun _ _ => False) s'
def Rows1 (X : Cx) (H : Hp) (vs : List Value) (kz : List Int) : Prop := ∀ (i : Nat) (u : Value), vs[i]? = some u → ∃ t k rest, u = .ref t ∧ kz[i]? = some k ∧ SqT X.K H t (.int k :: rest)
theorem rest_run {P : PySem.Fin → Shared → Prop} (I : Inv X (pins ++ [(D, seqObj "list" #[] e1)] ++ [(kS, seqObj "list" #[] 0)]) σ H s) (hkD : kS ≠ D) (fk : FpOk X (pins ++ [(D, seqObj "list" #[] e1)]) H kS) (fD : FpOk X pins H D)
    (hlen : kz.length = vs.length) (h64 : vs.length < 64) (call1 : Calls1 X pins σ H f) (hv : Rows1 X H vs kz)
    (h : ∀ s', SortEnd X pins σ H D kz vs s' → P (.done (.ret .none)) s') : wpAny (model X.prog X.w) X.A.in1.in1 (ksk_rest D (.ref f) false vs.toArray e1 (.ref kS)) P Ex s := by
  unfold ksk_rest
  refine wpAny_bind (wpAny_rule ?_)
  first | rw [List.forIn_toArray] | (rw [← Array.forIn_toList]; simp only [List.toList_toArray]) | rw [← Array.forIn_toList]
  refine wpAny_bind (ksk_fold (fun i s' => ∃ kA e, Inv X (pins ++ [(D, seqObj "list" #[] e1)] ++ [(kS, seqObj "list" kA e)]) σ H s' ∧ IntsAre kA.toList (kz.take i)) vs 0 s ⟨#[], 0, I, by simpa using IntsAre.nil⟩ ?one ?fin)
  case one =>
    rintro j x s' hx ⟨kA, e, J, hk⟩
    simp only [Nat.zero_add] at hk ⊢
    obtain ⟨t, k, rest, rfl, hkj, ht⟩ := hv j x hx
    have hj := (List.getElem?_eq_some_iff.mp hx).1
    have hz : kA.size ≤ vs.length := by
      have q := hk.length
      rw [Array.length_toList, List.length_take] at q
      omega
    have J' : Inv X (pins ++ ([(D, seqObj "list" #[] e1)] ++ [(kS, seqObj "list" kA e)])) σ H s' := by
      rw [← List.append_assoc]
      exact J
    refine wpAny_bind (wpAny_attempt (wpAny_mono (call1 _ s' t k rest J' ht) (fun v s'' he => ?_) fun _ _ hF => hF.elim))
    obtain ⟨w, H', J2, rv, rfl, rfl⟩ := he
    obtain ⟨t2, rfl⟩ := rv
    rw [← List.append_assoc] at J2
    try dsimp only
    have g1 := (J2.pin (kS, seqObj "list" kA e) (by simp)).1
    have b1 := Heap.SameBut.update s''.heap kS (Obj.mapSeq (·.push (.int k t2)))
    have g2 := get?_update_seq g1 (·.push (.int k t2))
    have J3 := turn_pin (t' := s''.toks) J2 fk b1
    refine wpAny_bind (listUpdate_at g1 rfl (wpAny_pure ⟨rfl, kA.push (.int k t2), _, add_pin J3 fk g2 seq_nocell, ?_⟩) (by rw [sizeLine_eq]; omega) (Nat.le_trans (Nat.le_of_eq (Array.size_push ..)) (by rw [sizeLine_eq]; omega)))
    rw [show (kA.push (Value.int k t2)).toList = kA.toList ++ [Value.int k t2] by simp, List.take_add_one, hkj]
    exact ksk_snoc hk
  case fin =>
    rintro s' ⟨kA, e, J, hk⟩
    rw [show kz.take (0 + vs.length) = kz from List.take_of_length_le (by omega)] at hk
    try dsimp only
    exact wpAny_bind (listItems_at (J.pin (kS, seqObj "list" kA e) (by simp)).1 rfl (end_run J hkD fk fD hk hlen h64 h))
theorem tree_run {P : PySem.Fin → Shared → Prop} {n : Nat} (I : Inv X pins σ H s) (hD : s.heap.get? D = some (seqObj "list" vs.toArray n)) (fD : FpOk X pins H D)
    (hlen : kz.length = vs.length) (h64 : vs.length < 64) (call1 : Calls1 X pins σ H f) (hv : Rows1 X H vs kz)
    (h : ∀ s', SortEnd X pins σ H D kz vs s' → P (.done (.ret .none)) s') : wpAny (model X.prog X.w) X.A.in1.in1 (ksk_tree D (.ref f) false) P Ex s := by
  have lt := Heap.lt_size hD
  have b1 := Heap.SameBut.update s.heap D (Obj.mapSeq fun _ => (#[] : Array Value))
  have g1 := get?_update_seq hD fun _ => (#[] : Array Value)
  have J1 : Inv X pins σ H { s with heap := s.heap.update D (Obj.mapSeq fun _ => (#[] : Array Value)) } := I.turned (t' := s.toks) (fun b o hb q => (b1.2 b hb).trans q) fD.1 fD.2.1 fD.2.2.2.1 fD.2.2.2.2.1 fD.2.2.2.2.2
  have J2 := add_pin J1 fD g1 seq_nocell
  have J3 : Inv X _ σ H { s with heap := (s.heap.update D (Obj.mapSeq fun _ => (#[] : Array Value))).push (seqObj "tuple" vs.toArray 0) } := J2.kept (t' := s.toks) fun b o q => Heap.get?_push_of_some _ q
  have J4 : Inv X _ σ H { s with heap := ((s.heap.update D (Obj.mapSeq fun _ => (#[] : Array Value))).push (seqObj "tuple" vs.toArray 0)).push (seqObj "list" #[] 0) } := J3.kept (t' := s.toks) fun b o q => Heap.get?_push_of_some _ q
  have fk := J3.fpOk (b := ((s.heap.update D (Obj.mapSeq fun _ => (#[] : Array Value))).push (seqObj "tuple" vs.toArray 0)).objs.size) (Nat.le_refl _) (J3.hok.fresh (Nat.le_refl _))
  have sz : ((s.heap.update D (Obj.mapSeq fun _ => (#[] : Array Value))).push (seqObj "tuple" vs.toArray 0)).objs.size = s.heap.objs.size + 1 := by rw [size_push', Heap.size_update]
  have J5 := add_pin J4 fk (Heap.get?_push_size _ rfl) seq_nocell
  have hz : vs.length ≤ sizeLine := by rw [sizeLine_eq]; omega
  unfold ksk_tree
  refine wpAny_bind (listItems_at hD rfl (wpAny_bind (listUpdate_at hD rfl (wpAny_bind (seqEpoch_at g1 rfl (wpAny_bind (wpAny_newTuple (wpAny_bind (wpAny_newList (wpAny_holding ?_) (Nat.zero_le _))) hz)))) ?_ (Nat.zero_le _))))
  · exact rest_run J5 (by rw [sz]; exact Nat.ne_of_gt (Nat.lt_succ_of_lt lt)) fk fD hlen h64 call1 hv h
  · rw [List.size_toArray]
    exact hz
/-- sorted(l, key=f) -/
theorem sorted_run {Q : Value → Shared → Prop} (I : Inv X pins σ H s) (hl : s.heap.IsList a vs.toArray) (hlen : kz.length = vs.length) (h64 : vs.length < 64) (call1 : Calls1 X pins σ H f) (hv : Rows1 X H vs kz)
    (h : ∀ D s', FpOk X pins H D → SortEnd X pins σ H D kz vs s' → Q (.ref D) s') : wpAny (model X.prog X.w) X.A (call (.builtin "sorted") [.ref a] [(Str.ofString "key", .ref f)]) Q Ex s := by
  have hz : vs.length ≤ sizeLine := by rw [sizeLine_eq]; omega
  refine call_function_entry_kw kind_sorted plain_sorted entry_sorted (ksk_s1 _ _) ?_
  unfold Builtin.«sorted»
  refine wpAny_bind (m := checkCount "sorted" 1 1 _) (wpAny_pure (wpAny_bind (collect_list hl (wpAny_bind (wpAny_newList ?_ hz)) hz)))
  have sz : ((s.heap.push (seqObj "list" #[] 0)).update s.heap.objs.size (Obj.mapSeq (· ++ vs.toArray))).objs.size = s.heap.objs.size + 1 := by rw [Heap.size_update, size_push']
  have kp : ∀ b o, s.heap.get? b = some o → (((s.heap.push (seqObj "list" #[] 0)).update s.heap.objs.size (Obj.mapSeq (· ++ vs.toArray))).push (seqObj "list" vs.toArray 0)).get? b = some o := fun b o q => by
    have lt := Heap.lt_size q
    refine Heap.get?_push_of_some _ ?_
    rw [Heap.get?_update_ne _ _ _ _ (Nat.ne_of_lt lt)]
    exact Heap.get?_push_of_some _ q
  have I1 : Inv X pins σ H { s with heap := ((s.heap.push (seqObj "list" #[] 0)).update s.heap.objs.size (Obj.mapSeq (· ++ vs.toArray))).push (seqObj "list" vs.toArray 0) } := I.kept (t' := s.toks) kp
  have gD : (((s.heap.push (seqObj "list" #[] 0)).update s.heap.objs.size (Obj.mapSeq (· ++ vs.toArray))).push (seqObj "list" vs.toArray 0)).get? (s.heap.objs.size + 1) = some (seqObj "list" vs.toArray 0) := by
    rw [← sz]
    exact Heap.get?_push_size _ rfl
  have fD : FpOk X pins H (s.heap.objs.size + 1) := I.fpOk (Nat.le_succ _) (I.hok.fresh (Nat.le_succ _))
  show wpAny _ _ _ _ _ { s with heap := ((s.heap.push (seqObj "list" #[] 0)).update s.heap.objs.size (Obj.mapSeq (· ++ vs.toArray))).push (seqObj "list" vs.toArray 0) }
  rw [sz]
  refine wpAny_bind (wpAny_holding (wpAny_call_entry_kw slot_list_sort ⟨_, gD, rfl⟩ entry_list_sort ?_ (ksk_l1 _ _)))
  show wpAny (model X.prog X.w) X.A.in1.in1 (Builtin.«list.sort» ⟨[.ref (s.heap.objs.size + 1)], [(Str.ofString "key", .ref f)]⟩) _ _ _
  rw [ksk_t1]
  exact tree_run I1 gD fD hlen h64 call1 hv fun s' z => ⟨_, rfl, wpAny_pure ⟨_, rfl, h _ s' fD z⟩⟩
end
end DS
set_option maxRecDepth 100000
set_option maxHeartbeats 4000000
/-! DS4: a lambda is made; sorted(e, key=lambda row: row[0]). -/
namespace DS
open PySem PySem.Spec PyProof.Rows L2 LamX
/-- what the making of a lambda changes: the table at P, new objects -/
structure Chg (P : Addr) (H H' : Hp) : Prop where
  keep : ∀ b o, b ≠ P → H b = some o → H' b = some o
  here : ∃ o, H' P = some o
theorem Chg.free {P : Addr} {H H' : Hp} (g : Chg P H H') {b : Addr} (h : H' b = none) : H b = none := by
  cases q : H b with
  | none => rfl
  | some o =>
    by_cases z : b = P
    · obtain ⟨u, hu⟩ := g.here
      rw [z, hu] at h
      cases h
    · rw [g.keep b o z q] at h
      cases h
section
variable {X : Cx} {pins : List (Addr × Obj)} {σ : L2.St} {H : Hp} {s : Shared}
theorem clo_none {cells : List (Str × Addr)} {names : List (Str × NameKind)} (h : ∀ y ∈ names, y.2 ≠ .free) : cloFrom cells names [] = [] := by
  apply List.eq_nil_iff_forall_not_mem.mpr
  rintro ⟨y, c⟩ hm
  rcases cloFrom_mem hm with z | ⟨z, _⟩
  · cases z
  · exact h _ z rfl
theorem lam_mk {c P : Addr} {params : Arguments} {body : Expr} {scope : Scope} {lpos : Pos} {Ex : Value → Shared → Prop} {Q : Value → Shared → Prop} (I : Inv X pins σ H s) (TB : TabB X.base X.mg c P) (hcode : X.env.code = .ref c)
    (hT : TabS H P (X.env.qual ++ "<lambda>")) (hdef : defaultsOf params X.env = ([], [])) (hno : ∀ y ∈ scope.names, y.2 ≠ .free)
    (h : ∀ (f c' : Addr) (pm ctv : Value) (H1 : Hp) (s' : Shared), Inv X pins σ H1 s' → Chg P H H1 → TabS H1 P (X.env.qual ++ "<lambda>") →
      s'.heap.get? f = some (PySem.W.kla_obj "<lambda>" (X.env.qual ++ "<lambda>") params body scope [] pm c' ctv) → FpOk X pins H1 f → H1 c' = some (CodeO c' (X.env.qual ++ "<lambda>")) → Q (.ref f) s') :
    wpAny (model X.prog X.w) X.A (eval (.Lambda params body scope lpos) X.env) Q Ex s := by
  obtain ⟨ps, gP, tr, among⟩ := hT
  have cl : closureFor scope X.env = pure [] := by
    rw [← clo_none (cells := X.env.cells) hno]
    exact closure_ok fun y hy z => absurd z (hno y hy)
  have gP' : s.heap.get? P = some { cls := .none, data := .fields ps } := I.hok P _ gP
  have bm := TB.bm.keeps I.bk
  refine PySem.W.kla_eval hdef ?_
  cases hc : codeAmong lpos ps.toList with
  | some cv =>
    obtain ⟨c1, rfl, hco⟩ := among lpos cv hc
    refine PySem.W.kla_makeFunctionHit (mg := X.mg) (c := c) (P := P) (ps := ps) cl I.ok.glob (I.mod.glob.keeps I.bk) hcode (TB.code.keeps I.bk) gP' tr hc bm fun ctv h' tk hx hsz => ?_
    exact h h'.objs.size c1 ((X.mg "__name__").getD .none) ctv H _ (I.kept fun b o e => Heap.get?_push_of_some _ (hx b o e)) ⟨fun _ _ _ q => q, _, gP⟩ ⟨ps, gP, tr, among⟩ (Heap.get?_push_size _ rfl) (I.fpOk hsz (I.hok.fresh hsz)) hco
  | none =>
    refine PySem.W.kla_makeFunction (mg := X.mg) (c := c) (P := P) (ps := ps) cl I.ok.glob (I.mod.glob.keeps I.bk) hcode (TB.code.keeps I.bk) gP' tr hc TB.gP bm fun c1 ctv h' tk hx hge hlt hrec htb => ?_
    obtain ⟨c2, oc, vs, t, e2, hoc, hd, hv⟩ := hrec
    cases e2
    have hsz : s.heap.objs.size ≤ h'.objs.size := Nat.le_trans hge (Nat.le_of_lt hlt)
    have fresh : H c1 = none := I.hok.fresh hge
    have nPc : P ≠ c1 := ne_of_none gP fresh
    have J := inv_table (t' := tk) (more := #[rawInt lpos.line, rawInt lpos.col, .ref c1]) (h' := h'.push (PySem.W.kla_obj "<lambda>" (X.env.qual ++ "<lambda>") params body scope [] ((X.mg "__name__").getD .none) c1 ctv)) I gP
      (fun b o hb e => Heap.get?_push_of_some _ (hx b o hb e)) (Heap.get?_push_of_some _ htb) hge ⟨oc, vs, t, Heap.get?_push_of_some _ hoc, hd, hv⟩
    have stay : ∀ b o, b ≠ P → H b = some o → upd (upd H P (.tbl (ps ++ #[rawInt lpos.line, rawInt lpos.col, .ref c1]))) c1 (CodeO c1 (X.env.qual ++ "<lambda>")) b = some o := fun b o hb q => by
      rw [upd_ne (ne_of_none q fresh), upd_ne hb]
      exact q
    have atP : upd (upd H P (.tbl (ps ++ #[rawInt lpos.line, rawInt lpos.col, .ref c1]))) c1 (CodeO c1 (X.env.qual ++ "<lambda>")) P = some (.tbl (ps ++ #[rawInt lpos.line, rawInt lpos.col, .ref c1])) := by rw [upd_ne nPc, upd_same]
    have eL : (ps ++ #[rawInt lpos.line, rawInt lpos.col, Value.ref c1]).toList = ps.toList ++ [rawInt lpos.line, rawInt lpos.col, .ref c1] := by simp
    refine h h'.objs.size c1 ((X.mg "__name__").getD .none) ctv _ _ J ⟨stay, _, atP⟩ ⟨_, atP, by rw [eL]; exact PySem.TriplesOk_snoc _ _ _ _ tr, fun p cv hcv => ?_⟩ (Heap.get?_push_size _ rfl) (I.fpOk hsz ?_) upd_same
    · rw [eL] at hcv
      rcases among_app _ tr hcv with z | z
      · obtain ⟨c0, e1, e2⟩ := among p cv z
        refine ⟨c0, e1, stay _ _ (fun w => ?_) e2⟩
        rw [w, gP] at e2
        exact codeO_ne ps (Option.some.inj e2).symm
      · exact ⟨c1, z, upd_same⟩
    · rw [upd_ne (Nat.ne_of_gt hlt), upd_ne (Nat.ne_of_gt (Nat.lt_of_lt_of_le (Heap.lt_size gP') hsz))]
      exact I.hok.fresh hsz
end
/-- rows with their first numbers -/
def KeyRows (K : PySem.W.Frag) (H : Hp) (xs : List V) (ks : List Int) : Prop := ks.length = xs.length ∧ ∀ (i : Nat) (v : V), xs[i]? = some v → ∃ t k rest, v = .ref t ∧ ks[i]? = some k ∧ SqT K H t (.int k :: rest)
/-- a thing that is known by its object -/
def FunO (f : Addr) (o : Obj) : HO := .ext fun h => h.get? f = some o
def tLamK (P : Addr) (q : Str) (params : Arguments) (body : Expr) (scope : Scope) : TE := fun σ H Q => TabS H P q ∧ ∀ H1 f c' pm ctv, Chg P H H1 → TabS H1 P q → H1 c' = some (CodeO c' q) → H1 f = none → Q (.ref f) (upd H1 f (FunO f (lamO q params body scope pm c' ctv)))
def rSortK (K : PySem.W.Frag) (q : Str) (params : Arguments) (body : Expr) (scope : Scope) : List V → List V → Hp → VK → Prop := fun vs zs H Q => ∃ a xs ks f pm c' ctv, vs = [V.ref a] ∧ zs = [V.ref f] ∧ SqL K H a xs ∧ KeyRows K H xs ks ∧ xs.length < 64 ∧
  H f = some (FunO f (lamO q params body scope pm c' ctv)) ∧ H c' = some (CodeO c' q) ∧
  ∀ (ps : List (Int × V)) p, ps.Perm (ks.zip xs) → ps.Pairwise (fun y z => y.1 ≤ z.1) → H p = none → Q (.ref p) (upd H p (.lst (ps.map (·.2))))
section
variable {X : Cx}
theorem pe_lam {c P : Addr} {params : Arguments} {body : Expr} {scope : Scope} {lpos : Pos} (TB : TabB X.base X.mg c P) (hcode : X.env.code = .ref c) (hdef : defaultsOf params X.env = ([], [])) (hno : ∀ y ∈ scope.names, y.2 ≠ .free) :
    PE X (.Lambda params body scope lpos) (tLamK P (X.env.qual ++ "<lambda>") params body scope) := by
  refine ⟨fun pins s σ H Q I ⟨hT, h⟩ => lam_mk I TB hcode hT hdef hno fun f c' pm ctv H1 s' J g hT1 hf fk hc => ?_⟩
  exact ⟨.ref f, _, J.take (t' := s'.toks) (o := FunO f (lamO (X.env.qual ++ "<lambda>") params body scope pm c' ctv)) (fun b o _ e => e) fk ⟨hf, ⟨_, hf⟩, fun h1 h2 e st => st _ e⟩, rfl, h H1 f c' pm ctv g hT1 hc fk.1⟩
theorem cr_sortK {q : Str} {params : Arguments} {scope : Scope} {j : Nat} {p1 p2 p3 : Pos} (S : FnScope ["row"] ["row"] scope) (hr : Room 1 X.A.in1.in1)
    (hbind : ∀ (pm cv ctv u : Value), bindArgs (PySem.W.kla_fn "<lambda>" q params (.Subscript (.Name "row" p1) (.Constant (.int 0) j p2) p3) scope [] pm cv ctv) ⟨[u], []⟩ = pure [(("row" : Str), u)]) :
    CallRK X (.builtin "sorted") [Str.ofString "key"] (rSortK X.K q params (.Subscript (.Name "row" p1) (.Constant (.int 0) j p2) p3) scope) := by
  intro pins s σ H xs zs us ws Q I r rz h
  obtain ⟨a, ys, ks, f, pm, c', ctv, rfl, rfl, hs, hk, h64, hf, hc, kk⟩ := h
  obtain rfl := Vals.ref1 r
  obtain rfl := Vals.ref1 rz
  obtain ⟨its, rv, hl, hz⟩ := I.list hs
  have len := rv.length
  show wpAny (model X.prog X.w) X.A (call (.builtin "sorted") [.ref a] [(Str.ofString "key", .ref f)]) _ _ s
  refine sorted_run (kz := ks) I hl.isList (hk.1.trans len) (by omega) (fun more s' t k rest J ht => ?_) (fun i u hu => ?_) fun D s' fD hE => ?_
  · exact lam_call J S (J.hok f _ hf).1 hc (fun cv u => hbind pm cv ctv u) hr ht
  · have hi : i < ys.length := by
      have := (List.getElem?_eq_some_iff.mp hu).1
      omega
    obtain ⟨t, k, rest, e1, e2, e3⟩ := hk.2 i ys[i] (List.getElem?_eq_getElem hi)
    obtain ⟨u2, hu2, r2⟩ := rv.get (i := i) (x := ys[i]) (List.getElem?_eq_getElem hi)
    rw [hu] at hu2
    cases hu2
    rw [e1] at r2
    exact ⟨t, k, rest, r2, e2, e3⟩
  · obtain ⟨out, cc, J, hD, ps0, p0, e0, o0⟩ := hE
    obtain ⟨ps, p1, e1, v1⟩ := perm_lift rv p0
    rw [← e0] at v1
    have hlen : (ps.map (·.2)).length ≤ sizeLine := by
      rw [List.length_map, p1.length_eq, List.length_zip, sizeLine_eq]
      omega
    refine ⟨.ref D, _, J.take (t' := s'.toks) (o := .lst (ps.map (·.2))) (fun b o _ e => e) fD ⟨hlen, out.toList, cc, v1, by rw [Array.toArray_toList]; exact hD⟩, rfl, kk ps D p1 ?_ fD.1⟩
    have e2 : (ps.map (·.1)).Pairwise (· ≤ ·) := by
      rw [e1, List.pairwise_map]
      exact o0.imp fun z => by simpa using z
    rwa [List.pairwise_map] at e2
end
end DS
set_option maxRecDepth 100000
set_option maxHeartbeats 2000000
/-! DL16: sorted by the first part of rows, dicts' get, {k: v}, sorted dict, ranges as values. -/
namespace DL
open PySem PySem.Spec PyProof.Rows L2 RZ LamX
variable [TabC]

/-! ### sorted(e, key=lambda row: row[0]) -/
def rowD (kr : Int × List Dat) : Dat := .tup (.int kr.1 :: kr.2)
theorem rows_zip {B : BB} {F : Hp} : ∀ {vs : List V} {l : List (Int × List Dat)}, Reps B F vs (l.map rowD) → ∀ z ∈ l.zip vs, Rep B F z.2 (rowD z.1)
  | [], [], _, z, hz => by simp at hz
  | [], _ :: _, h, _, _ => by cases h
  | _ :: _, [], h, _, _ => by cases h
  | v :: vs, a :: l, h, z, hz => by
    rw [List.map_cons] at h
    cases h with
    | cons h1 h2 =>
      rw [List.zip_cons_cons] at hz
      rcases List.mem_cons.mp hz with e | hz
      · rw [e]; exact h1
      · exact rows_zip h2 z hz
theorem zip_rows {B : BB} {F : Hp} : ∀ {zs : List ((Int × List Dat) × V)}, (∀ z ∈ zs, Rep B F z.2 (rowD z.1)) → Reps B F (zs.map (·.2)) ((zs.map (·.1)).map rowD)
  | [], _ => .nil
  | z :: zs, h => .cons (h z (by simp)) (zip_rows fun y hy => h y (by simp [hy]))
def dSortK (T : TD) : TD := fun ε P => T ε fun d => ∃ l : List (Int × List Dat), d = .lst (l.map rowD) ∧ l.length < 64 ∧ ∀ l' : List (Int × List Dat), l'.Perm l → l'.Pairwise (fun y z => y.1 ≤ z.1) → P (.lst (l'.map rowD))
section
variable {X : Cx} {e : Expr} {T : TD} {c : Nat} {p pos kpos lpos p1 p2 p3 : Pos} {params : Arguments} {scope : Scope} {j : Nat}
theorem pd_sortK {cA Pt : Addr} (TB : TabB X.base X.mg cA Pt) (hP : TabC.tb = some Pt) (hq : X.env.qual ++ "<lambda>" = TabC.q) (hcode : X.env.code = .ref cA) (S : FnScope ["row"] ["row"] scope) (hr : Room 1 X.A.in1.in1)
    (hg : Gl X "sorted") (hm : X.mg "sorted" = none) (h : PD .rep X c e T)
    (hdef : defaultsOf params X.env = ([], []) := by rfl) (hno : ∀ y ∈ scope.names, y.2 ≠ .free := by decide)
    (hbind : ∀ (q : Str) (pm cv ctv u : Value), bindArgs (PySem.W.kla_fn "<lambda>" q params (.Subscript (.Name "row" p1) (.Constant (.int 0) j p2) p3) scope [] pm cv ctv) ⟨[u], []⟩ = pure [(("row" : Str), u)] := by intro _ _ _ _ _; rfl)
    (he : backTo pos (starEach [e] X.env) = (false, eval e X.env) :: backTo pos (starEach [] X.env) := by rfl) (hpl : (backTo pos (starEach [e] X.env)).any (·.1) = false := by rfl) (na : starEach [e] X.env = (false, eval e X.env) :: starEach [] X.env := by rfl)
    (hall : (backToKw pos (keywordEach [⟨some "key", .Lambda params (.Subscript (.Name "row" p1) (.Constant (.int 0) j p2) p3) scope lpos, kpos⟩] X.env)).all (·.1.isSome) = true := by rfl)
    (hnone : (backToKw pos (keywordEach [⟨some "key", .Lambda params (.Subscript (.Name "row" p1) (.Constant (.int 0) j p2) p3) scope lpos, kpos⟩] X.env)).any (·.1.isNone) = false := by rfl)
    (hks : (backToKw pos (keywordEach [⟨some "key", .Lambda params (.Subscript (.Name "row" p1) (.Constant (.int 0) j p2) p3) scope lpos, kpos⟩] X.env)).filterMap (·.1) = [Str.ofString "key"] := by rfl) :
    PD .fr X c (.Call (.Name "sorted" p) [e] [⟨some "key", .Lambda params (.Subscript (.Name "row" p1) (.Constant (.int 0) j p2) p3) scope lpos, kpos⟩] pos) (dSortK T) :=
  pe_weak (pe_callBK (DS.cr_sortK S hr (hbind _)) hg hm boot_sorted (pa_cons h pa_nil na) (pk_cons (DS.pe_lam TB hcode hdef hno) pk_nil) (by decide) (by decide) he hpl hall hnone hks) fun σ H Q ⟨A, B, F, ε, P, n, r, bx, hn, t, k⟩ => by
    refine ⟨A, B, F, ε, _, n, r, bx, hn, t, fun v F1 H1 d g1 q1 ⟨l, e1, hl, pp⟩ => ⟨by rw [hq]; exact (g1.box n bx).2 Pt hP, fun H2 f c' pm ctv ch hT2 hc2 hf => ?_⟩⟩
    subst e1
    have r1 := r.gr g1
    obtain ⟨fP, _, oP, hoP⟩ := r1.bx Pt (.inr hP)
    have there : ∀ b o, H1 b = some o → ∃ o', H2 b = some o' ∧ b ≠ f := fun b o hb => by
      have ⟨o', h2⟩ : ∃ o', H2 b = some o' := by
        by_cases z : b = Pt
        · obtain ⟨u, hu⟩ := ch.here
          exact ⟨u, by rw [z]; exact hu⟩
        · exact ⟨o, ch.keep b o z hb⟩
      exact ⟨o', h2, fun z => by rw [z, hf] at h2; cases h2⟩
    have up : ∀ b o, F1 b = some o → upd H2 f (DS.FunO f (DS.lamO (X.env.qual ++ "<lambda>") params (.Subscript (.Name "row" p1) (.Constant (.int 0) j p2) p3) scope pm c' ctv)) b = some o := fun b o hb => by
      have nP : b ≠ Pt := fun z => by rw [z, fP] at hb; cases hb
      have h1 := g1.sub b o hb
      obtain ⟨_, _, nf⟩ := there b o h1
      rw [upd_ne nf]
      exact ch.keep b o nP h1
    cases q1 with
    | @lst a vs _ h1 h2 =>
      have hlen := h2.length
      rw [List.length_map] at hlen
      refine ⟨a, vs, l.map (·.1), f, pm, c', ctv, rfl, rfl, SqL.of (up _ _ h1), ⟨by rw [List.length_map, hlen], fun i v hv => ?_⟩, by omega, upd_same, ?_, fun ps q hp hs hqn => ?_⟩
      · obtain ⟨d, hd, rd⟩ := h2.getV hv
        rw [List.getElem?_map] at hd
        cases el : l[i]? with
        | none => rw [el] at hd; cases hd
        | some kr =>
          rw [el] at hd
          cases hd
          unfold rowD at rd
          cases rd with
          | tup hF hd hr =>
            cases hr with
            | cons r1 r2 =>
              cases r1
              exact ⟨_, kr.1, _, rfl, by rw [List.getElem?_map, el]; rfl, KT.sq ⟨_, up _ _ hF, hd⟩⟩
      · rw [upd_ne (fun z => by rw [z, hf] at hc2; cases hc2)]
        exact hc2
      · have ez : (l.zip vs).map (fun z => (z.1.1, z.2)) = (l.map (·.1)).zip vs := by
          rw [List.zip_map_left]
          rfl
        obtain ⟨zs, hz1, hz2⟩ := L2.perm_lift (fun z : (Int × List Dat) × V => (z.1.1, z.2)) hp _ ez
        subst hz2
        have e3 : (zs.map fun z : (Int × List Dat) × V => (z.1.1, z.2)).map (·.2) = zs.map (·.2) := by rw [List.map_map]; rfl
        rw [e3]
        have hq1 : H1 q = none := by
          cases w : H1 q with
          | none => rfl
          | some o =>
            obtain ⟨o', h3, nf⟩ := there q o w
            rw [upd_ne nf, h3] at hqn
            cases hqn
        have hqF : F1 q = none := r1.ex.back hq1
        have nb : ¬ B.has q := fun z => by
          obtain ⟨_, _, o, ho⟩ := r1.bx q z
          rw [hq1] at ho
          cases ho
        have g2 : Gr NoA B 0 F1 H1 F1 (upd (upd H2 f (DS.FunO f (DS.lamO (X.env.qual ++ "<lambda>") params (.Subscript (.Name "row" p1) (.Constant (.int 0) j p2) p3) scope pm c' ctv))) q (.lst (zs.map (·.2)))) := by
          refine ⟨.refl _, fun b o hb => ?_, fun b o hb => .inl hb, fun b o hb nb' _ => ?_, fun b o hb => ?_, fun m hm => ⟨fun b hb => ?_, fun P' hP' => ?_⟩⟩
          · rw [upd_ne (ne_of_none hb hqF)]
            exact up b o hb
          · obtain ⟨_, _, nf⟩ := there b o hb
            rw [upd_ne (ne_of_none hb hq1), upd_ne nf]
            exact ch.keep b o (fun z => nb' (.inr (z ▸ hP))) hb
          · obtain ⟨o', h3, nf⟩ := there b o hb
            exact ⟨o', by rw [upd_ne (ne_of_none hb hq1), upd_ne nf]; exact h3⟩
          · obtain ⟨ws, h3, h4⟩ := hm.1 b hb
            obtain ⟨_, _, nf⟩ := there b _ h3
            refine ⟨ws, ?_, h4⟩
            rw [upd_ne (ne_of_none h3 hq1), upd_ne nf]
            refine ch.keep b _ (fun z => ?_) h3
            obtain ⟨ps, e4, _⟩ := hm.2 Pt hP
            rw [z, e4] at h3
            cases h3
          · rw [hP] at hP'
            cases hP'
            rw [hq] at hT2
            exact (hT2.ext (Ex.new hf)).ext (Ex.new hqn)
        refine k (.ref q) F1 _ _ ((g1.trans g2 : Gr NoA B (c + 0) F H F1 _)) ⟨q, rfl, ⟨hqF, nb, .lst (zs.map (·.2)), upd_same, (show Cont B F1 (.lst (zs.map (·.2))) (.lst ((zs.map (·.1)).map rowD)) from zip_rows fun z hz => rows_zip h2 z (hz1.mem_iff.mp hz))⟩, g1.free hq1⟩ (pp (zs.map (·.1)) ?_ ?_)
        · have := hz1.map (·.1)
          rwa [List.map_fst_zip (by omega)] at this
        · rw [List.pairwise_map] at hs ⊢
          exact hs

/-! ### a new object is written -/
theorem Gr.wrNew {B : BB} {F H F' H' : Hp} {q : Addr} {o : HO} (g : Gr NoA B c F H F' H') (hp : H q = none) (hF : F' q = none) (nb : ¬ B.has q) (hx : ∀ φ, H' q ≠ some (.ext φ)) (hb : ∃ o, H' q = some o) : Gr NoA B c F H F' (upd H' q o) := by
  refine ⟨g.ex, g.sub.mut hF, g.new, fun a u ha nb' na => ?_, fun a u ha => ?_, fun m hm => ⟨fun b hb2 => ?_, fun P hP => tab_write ((g.box m hm).2 P hP) (fun z => nb (.inr (z ▸ hP))) hx⟩⟩
  · rw [upd_ne (ne_of_none ha hp)]
    exact g.keep a u ha nb' na
  · rw [upd_ne (ne_of_none ha hp)]
    exact g.there a u ha
  · obtain ⟨ws, h1, h2⟩ := (g.box m hm).1 b hb2
    have ne : b ≠ q := fun z => nb (.inl (by rw [← z]; exact hb2))
    exact ⟨ws, by rw [upd_ne ne]; exact h1, h2⟩

/-! ### {k: v} -/
variable {a b o ie ve xe : Expr} {c1 c2 c3 : Nat} {Ta Tb Tx : TD} {apos cpos : Pos} {x : Str}
def dLit1 (Tk Tv : TD) : TD := fun ε P => Tk ε fun y => Tv ε fun z => ∃ k, keyD y = some k ∧ P (.dct [(k, z)])
theorem pd_lit1 (ha : PD .rep X c1 a Ta) (hb : PD .rep X c2 b Tb) : PD .fr X (c1 + c2) (.Dict [some a] [b] pos) (dLit1 Ta Tb) :=
  pe_weak (pe_disp (pps_cons ha hb pps_nil) rfl rfl (by simp) (by simp)) fun σ H Q ⟨A, B, F, ε, P, n, r, bx, hn, t, k⟩ => by
    intro q hq
    have g0 : Gr NoA B 0 F H F (upd H q (.dK [])) := Gr.alloc0 r.ex hq
    have nb : ¬ B.has q := fun z => by
      obtain ⟨_, _, o, ho⟩ := r.bx q z
      rw [hq] at ho
      cases ho
    refine ⟨A, B, F, ε, _, n, r.gr g0, g0.box n bx, by omega, t, fun y F1 H1 d g1 q1 t1 => ?_⟩
    refine ⟨A, B, F1, ε, _, n + c1, (r.gr g0).gr g1, g1.box n (g0.box n bx), by omega, t1, fun z F2 H2 d2 g2 q2 ⟨kk, hk, p⟩ => ?_⟩
    have h1 : H1 q = some (.dK []) := g1.keep q _ upd_same nb (fun z => z)
    have h2 : H2 q = some (.dK []) := g2.keep q _ h1 nb (fun z => z)
    have f1 : F1 q = none := free_keep g1 (r.ex.back hq) (fun z => z) upd_same
    have f2 : F2 q = none := free_keep g2 f1 (fun z => z) h1
    have e1 := keyD_rep q1 hk
    subst e1
    refine ⟨h2, [(kk, z)], rfl, by simp, ?_⟩
    have e2 : mergeK [] [(kk, z)] = [(kk, z)] := by simp [mergeK, putK]
    rw [e2]
    have gg : Gr NoA B (c1 + c2) F H F2 H2 := (((g0.trans g1).trans g2).mono (by omega))
    exact k (.ref q) F2 _ _ (gg.wrNew hq f2 nb (fun φ z => by rw [h2] at z; cases z) ⟨_, h2⟩) ⟨q, rfl, ⟨f2, nb, .dK [(kk, z)], upd_same, (show Cont B F2 (.dK [(kk, z)]) (.dct [(kk, d2)]) from ⟨rfl, .cons q2 .nil⟩)⟩, hq⟩ p

/-! ### d.get -/
def dGet1 (Td Ty : TD) : TD := fun ε P => Td ε fun d => ∃ ks, d = .dct ks ∧ Ty ε fun y => ∃ k, keyD y = some k ∧ P ((lookD ks k).getD .non)
def dGet2 (Td Ty Tx : TD) : TD := fun ε P => Td ε fun d => ∃ ks, d = .dct ks ∧ Ty ε fun y => Tx ε fun z => ∃ k, keyD y = some k ∧ P ((lookD ks k).getD z)
theorem get_rep {B : BB} {F : Hp} {vs : List (Key × V)} {ks : List (Key × Dat)} {kk : Key} {z : V} {w : Dat} (h : vs.map (·.1) = ks.map (·.1)) (r : Reps B F (vs.map (·.2)) (ks.map (·.2))) (hz : Rep B F z w) : Rep B F ((valV vs kk).getD z) ((lookD ks kk).getD w) := by
  obtain ⟨h1, h2⟩ := look_some (k := kk) h r
  cases e : lookD ks kk with
  | none => rw [h2 e]; exact hz
  | some d => obtain ⟨v, hv, rv⟩ := h1 d e; rw [hv]; exact rv
theorem pd_get1 (hu : X.A.units + 1 < cLine) (ho : PD .sh X c1 o Ta) (he : PD .rep X c2 e Tb) (m : M1 X o "get" apos e cpos := by exact ⟨rfl, rfl, rfl, rfl⟩) : PD .rep X (c1 + c2) (.Call (.Attribute o "get" apos) [e] [] cpos) (dGet1 Ta Tb) :=
  pe_weak (pe_dget1 hu ho he m) fun σ H Q ⟨A, B, F, ε, P, n, r, bx, hn, t, k⟩ =>
    ⟨A, B, F, ε, _, n, r, bx, by omega, t, fun v F1 H1 d g1 q1 ⟨ks, e1, t1⟩ => by
      subst e1
      obtain ⟨a, vs, rfl, h1, h2, h3⟩ := sh_dct g1.sub q1
      refine ⟨a, rfl, .inl ⟨vs, .of h1⟩, A, B, F1, ε, _, n + c1, r.gr g1, g1.box n bx, by omega, t1, fun y F2 H2 d2 g2 q2 ⟨kk, hk, p⟩ => ?_⟩
      obtain ⟨a', ws, e2, h4, h5, h6⟩ := sh_dct g2.sub (q1.gr g2)
      cases e2
      have e3 := keyD_rep q2 hk
      subst e3
      exact ⟨_, DGet.k h4, k _ F2 H2 _ (g1.trans g2) (get_rep h5 h6 .non) p⟩⟩
theorem pd_get2 (hu : X.A.units + 1 < cLine) (ho : PD .sh X c1 o Ta) (he : PD .rep X c2 e Tb) (hf : PD .rep X c3 xe Tx) (m : M2 X o "get" apos e xe cpos := by exact ⟨rfl, rfl, rfl, rfl⟩) : PD .rep X (c1 + (c2 + c3)) (.Call (.Attribute o "get" apos) [e, xe] [] cpos) (dGet2 Ta Tb Tx) :=
  pe_weak (pe_dget2 hu ho he hf m) fun σ H Q ⟨A, B, F, ε, P, n, r, bx, hn, t, k⟩ =>
    ⟨A, B, F, ε, _, n, r, bx, by omega, t, fun v F1 H1 d g1 q1 ⟨ks, e1, t1⟩ => by
      subst e1
      obtain ⟨a, vs, rfl, h1, h2, h3⟩ := sh_dct g1.sub q1
      refine ⟨a, rfl, .inl ⟨vs, .of h1⟩, A, B, F1, ε, _, n + c1, r.gr g1, g1.box n bx, by omega, t1, fun y F2 H2 d2 g2 q2 t2 => ?_⟩
      refine ⟨A, B, F2, ε, _, n + c1 + c2, (r.gr g1).gr g2, g2.box _ (g1.box n bx), by omega, t2, fun z F3 H3 d3 g3 q3 ⟨kk, hk, p⟩ => ?_⟩
      obtain ⟨a', ws, e2, h4, h5, h6⟩ := sh_dct g3.sub ((q1.gr g2).gr g3)
      cases e2
      have e3 := keyD_rep q2 hk
      subst e3
      exact ⟨_, DGet.k h4, k _ F3 H3 _ (((g1.trans g2).trans g3).mono (by omega)) (get_rep h5 h6 q3) p⟩⟩

/-! ### sorted(d), keys all ints -/
def rSortDI : List V → Hp → VK → Prop := fun xs H Q => ∃ (a : Addr) (kvs : List (Key × V)) (ks : List Int), xs = [.ref a] ∧ Rd H a (.dK kvs) ∧ kvs.map (·.1) = ks.map Sum.inl ∧ ks.length < 64 ∧
    ∀ (ys : List Int) (p : Addr), ys.Perm ks → ys.Pairwise (· ≤ ·) → H p = none → Q (.ref p) (upd H p (.lst (ys.map V.int)))
theorem call_sortDI (hc : X.calm = true) : CallR X (.builtin "sorted") rSortDI := call_sortedDI hc
def fSortDI : List Dat → (Dat → Prop) → Prop
  | [.dct ks], P => ∃ ns : List Int, ks.map (·.1) = ns.map Sum.inl ∧ ns.length < 64 ∧ ∀ ys : List Int, ys.Perm ns → ys.Pairwise (· ≤ ·) → P (.lst (ys.map .int))
  | _, _ => False
theorem cd_sortDI : CrD .fr rSortDI fSortDI := fun B F H Hb vs ds P Q ex hb bx h t k => by
  unfold fSortDI at t
  split at t
  · obtain ⟨ns, h1, h2, h3⟩ := t
    cases h with
    | cons h4 h5 =>
      cases h5
      obtain ⟨p, ws, rfl, h6, h7, h8⟩ := sh_dct ex h4
      exact ⟨p, ws, ns, rfl, .of h6, h7.trans h1, h2, fun ys q p1 p2 hq => opd_own ex hb bx (Reps.of_ints ys) (h3 ys p1 p2) k q hq⟩
  · exact t.elim

/-! ### a range as a value -/
theorem cr_range1 : CallR X (.type "range") (fun vs H Q => ∃ n, vs = [V.int n] ∧ ∀ p, H p = none → Q (.ref p) (upd H p (.rng 0 n))) := by
  intro pins s σ H vs us Q I r h
  obtain ⟨n, rfl, q⟩ := h
  obtain ⟨u, rfl, ru⟩ := vals1 r
  obtain ⟨t, rfl⟩ := ru
  exact call_range_1 ⟨.ref s.heap.objs.size, _, I.laid (a := s.heap.objs.size) (o := .rng 0 n) (t' := s.toks + 1 + 1) (fun b o e => Heap.get?_push_of_some _ e) (Nat.le_refl _) ⟨_, _, _, Heap.get?_push_size _ rfl⟩, rfl, q _ (I.hok.fresh (Nat.le_refl _))⟩
def fRg1 : List Dat → (Dat → Prop) → Prop
  | [.int n], P => P (.rng 0 n)
  | _, _ => False
theorem cd_range1 : CrD .rep (fun vs H Q => ∃ n, vs = [V.int n] ∧ ∀ p, H p = none → Q (.ref p) (upd H p (.rng 0 n))) fRg1 := fun B F H Hb vs ds P Q ex hb bx h t k => by
  unfold fRg1 at t
  split at t
  · cases h with
    | cons h1 h2 =>
      cases h2
      cases sh_int h1
      exact ⟨_, rfl, fun p hp => k (.ref p) _ _ _ (Gr.alloc (A := NoA) (o := .rng 0 _) ex hp) (.rng upd_same) t⟩
  · exact t.elim
def iRgV (te : TE) : TI := fun σ H R => te σ H fun x H1 => ∃ (a : Addr) (lo hi : Int), x = .ref a ∧ H1 a = some (.rng lo hi) ∧ (-(2 ^ 62) ≤ lo ∧ lo < 2 ^ 62 ∧ -(2 ^ 62) ≤ hi ∧ hi < 2 ^ 62) ∧ R (Itr lo (hi - lo).toNat) H1
theorem pi_rngV {tg : Expr} {te : TE} (h : PE X e te) : PI X tg e (iRgV te) := by
  refine ⟨fun pins s σ H R I q => ?_⟩
  refine thn (h.run pins s σ H _ I q) fun v s1 ⟨x, H1, I1, r1, q1⟩ => ?_
  obtain ⟨a, lo, hi, rfl, ha, ⟨b1, b2, b3, b4⟩, q1⟩ := q1
  obtain rfl : v = Value.ref a := r1
  obtain ⟨t, u, w, hget⟩ := I1.hok a _ ha
  refine wpAny_pyIter_range (show IsRange s1.heap a lo hi 1 t u w from hget) (small_one b1 b2 b3 b4) ?_
  refine ⟨s1.heap.objs.size, [s1.heap.objs.size], _, _, H1, rfl, I1.kept (t' := s1.toks) fun b o e => Heap.get?_push_of_some _ e, turn_range _ lo (hi - lo).toNat, ?_, fun b hb => ?_, q1⟩
  · have e1 : lo + ((0 : Nat) : Int) * 1 = lo := by omega
    have e2 : (((hi - lo).toNat : Nat) : Int) - ((0 : Nat) : Int) = Builtin.Range.rangeSize lo hi 1 := by
      rw [rangeSize_one]
      split <;> omega
    show IsRangeIter _ _ (lo + ((0 : Nat) : Int) * 1) ((((hi - lo).toNat : Nat) : Int) - ((0 : Nat) : Int)) 1
    rw [e2, e1]
    exact Heap.get?_push_size _ rfl
  · obtain rfl := List.mem_singleton.mp hb
    exact I1.fpOk (Nat.le_refl _) (I1.hok.fresh (Nat.le_refl _))
def iRg (T : TD) : TID := fun ε P => T ε fun d => ∃ lo hi : Int, d = .rng lo hi ∧ (-(2 ^ 62) ≤ lo ∧ lo < 2 ^ 62 ∧ -(2 ^ 62) ≤ hi ∧ hi < 2 ^ 62) ∧ P (rngD lo (hi - lo).toNat)
theorem pid_rng {tg : Expr} (h : PD .rep X c e T) : PID false X c tg e (iRg T) := pi_weak (pi_rngV h) fun σ H R ⟨A, B, F, ε, P, n, r, bx, hn, t, k⟩ =>
  ⟨A, B, F, ε, _, n, r, bx, hn, t, fun v F' H' d g q ⟨lo, hi, e1, h1, p⟩ => by
    subst e1
    cases q with
    | rng hF => exact ⟨_, lo, hi, rfl, g.sub _ _ hF, h1, k _ F' H' _ g walk_rngD p⟩⟩

/-! ### what they ask, for simp -/
variable {ε : Ev} {P : Dat → Prop} {Td Ty : TD} {U : TAD} {C : Addr} {mth : Str} {Sm : List Dat → (Dat → Prop) → Prop}
@[simp] theorem u_dSortK : dSortK T ε P = T ε fun d => ∃ l : List (Int × List Dat), d = .lst (l.map rowD) ∧ l.length < 64 ∧ ∀ l' : List (Int × List Dat), l'.Perm l → l'.Pairwise (fun y z => y.1 ≤ z.1) → P (.lst (l'.map rowD)) := rfl
@[simp] theorem u_dLit1 : dLit1 Ta Tb ε P = Ta ε fun y => Tb ε fun z => ∃ k, keyD y = some k ∧ P (.dct [(k, z)]) := rfl
@[simp] theorem u_dGet1 : dGet1 Td Ty ε P = Td ε fun d => ∃ ks, d = .dct ks ∧ Ty ε fun y => ∃ k, keyD y = some k ∧ P ((lookD ks k).getD .non) := rfl
@[simp] theorem u_dGet2 : dGet2 Td Ty Tx ε P = Td ε fun d => ∃ ks, d = .dct ks ∧ Ty ε fun y => Tx ε fun z => ∃ k, keyD y = some k ∧ P ((lookD ks k).getD z) := rfl
@[simp] theorem u_fSortDI {ks : List (Key × Dat)} : fSortDI [.dct ks] P = ∃ ns : List Int, ks.map (·.1) = ns.map Sum.inl ∧ ns.length < 64 ∧ ∀ ys : List Int, ys.Perm ns → ys.Pairwise (· ≤ ·) → P (.lst (ys.map .int)) := rfl
@[simp] theorem u_fRg1 {n : Int} : fRg1 [.int n] P = P (.rng 0 n) := rfl
@[simp] theorem u_dMeth : dMeth C mth Sm T U ε P = T ε fun d => ∃ xs, d = .obj C xs ∧ xs.lookup mth = none ∧ U ε fun ds => Sm (d :: ds) P := rfl
end
end DL
set_option maxRecDepth 100000
set_option maxHeartbeats 2000000
/-! DL17: zip of a tuple and a list. -/
namespace DL
open PySem PySem.Spec PyProof.Rows L2 RZ

/-- what zip asks of one of its two iterators (i over l), whatever its kind -/
structure Feed (P : Program) (w : World) (i l : Addr) (St : Nat → Heap → Prop) (get : Nat → Option Value) : Prop where
  stay : ∀ {k h h'}, St k h → (∀ b o, b = i ∨ b = l → h.get? b = some o → h'.get? b = some o) → St k h'
  item : ∀ {A : Around} {E Q : Value → Shared → Prop} {s : Shared} {k x}, St k s.heap → get k = some x → (∀ h', St (k + 1) h' → Heap.SameBut i s.heap h' → Q x { s with heap := h' }) → wpAny (model P w) A (Builtin.SmallTypes.nextOf (.ref i)) Q E s
  stop : ∀ {A : Around} {E Q : Value → Shared → Prop} {s : Shared} {k}, A.handled = none → St k s.heap → get k = none → (∀ h' e, Heap.ExtBut i s.heap h' → (∃ o, h'.get? e = some o ∧ o.cls = .type "StopIteration") → E (.ref e) { s with heap := h' }) → wpAny (model P w) A (Builtin.SmallTypes.nextOf (.ref i)) Q E s
theorem feed_tup {P : Program} {w : World} {i l : Addr} {xs : Array Value} (ne : l ≠ i) : Feed P w i l (fun k h => h.IsTupleIter i l k ∧ h.IsTuple l xs) (fun k => xs[k]?) where
  stay := fun st k => ⟨st.1.at fun o q => k i o (.inl rfl) q, st.2.at fun o q => k l o (.inr rfl) q⟩
  item := fun st hx h => nextOf_tuple_item st.1 st.2 hx fun h' a b => h h' ⟨a, st.2.extBut b.extBut ne⟩ b
  stop := fun hh st hx h => nextOf_tuple_end hh st.1 st.2 hx h
theorem feed_lst {P : Program} {w : World} {i l : Addr} {xs : Array Value} (ne : l ≠ i) : Feed P w i l (fun k h => h.IsListIter i l k ∧ h.IsList l xs) (fun k => xs[k]?) where
  stay := fun st k => ⟨st.1.at fun o q => k i o (.inl rfl) q, st.2.at fun o q => k l o (.inr rfl) q⟩
  item := fun st hx h => wpAny_nextOf_list_item st.1 st.2 hx fun h' a b => h h' ⟨a, st.2.extBut b.extBut ne⟩ b
  stop := fun hh st hx h => wpAny_nextOf_list_end hh st.1 st.2 hx h
section
variable {P : Program} {w : World} {A : Around} {E : Value → Shared → Prop} {s : Shared} {z TI TO i1 i2 l1 l2 : Addr} {k1 k2 : Nat} {S1 S2 : Nat → Heap → Prop} {g1 g2 : Nat → Option Value} {x y a b : Value}
theorem zg_item {Q : Value → Shared → Prop} (F1 : Feed P w i1 l1 S1 g1) (F2 : Feed P w i2 l2 S2 g2) (D : ZipApart z TI TO i1 i2 l1 l2) (iz : IsZip s.heap z TI TO .none) (iI : IsPair s.heap TI (.ref i1) (.ref i2)) (iO : IsPair s.heap TO a b)
    (s1 : S1 k1 s.heap) (s2 : S2 k2 s.heap) (e1 : g1 k1 = some x) (e2 : g2 k2 = some y) (lz : ∀ h, IsZip h z TI TO .ellipsis → z < h.objs.size)
    (h : ∀ h', IsZip h' z TI TO (rawInt s.heap.objs.size) → IsPair h' TO x y → S1 (k1 + 1) h' → S2 (k2 + 1) h' → IsPair h' s.heap.objs.size x y → h'.objs.size = s.heap.objs.size + 1 →
      (∀ c o, c ≠ z → c ≠ TO → c ≠ i1 → c ≠ i2 → s.heap.get? c = some o → h'.get? c = some o) → Q (.ref s.heap.objs.size) { s with heap := h' })
    (f1 : ∀ k h, S1 k h → ∃ o, h.get? i1 = some o) (f2 : ∀ k h, S2 k h → ∃ o, h.get? i2 = some o) :
    wpAny (model P w) A (Builtin.«zip.__next__» ⟨[.ref z], []⟩) (fun fin s' => ∃ v, fin = .done (.ret v) ∧ Q v s') E s := by
  show wpAny _ _ (field (.ref z) 2 >>= _) _ _ _
  refine wpAny_bind (wpAny_field iz rfl (x := .bool false) rfl ?_)
  show wpAny _ _ (field (.ref z) 3 >>= _) _ _ _
  refine wpAny_bind (wpAny_field iz rfl (x := .ref TI) rfl (wpAny_bind (wpAny_seqItems iI rfl ?_)))
  show wpAny _ _ (Builtin.SmallTypes.ownedTupleIsFree (.ref z) >>= _) _ _ _
  unfold Builtin.SmallTypes.ownedTupleIsFree
  refine wpAny_bind (wpAny_bind (wpAny_field iz rfl (x := .none) rfl (wpAny_pure ?_)))
  simp only [if_true]
  refine wpAny_bind (wpAny_rule (wpAny_bind (wpAny_field iz rfl (x := .ref TO) rfl (wpAny_bind (wpAny_setField_rec iz (by simp) fun ha za ka => ?_)))))
  replace za : IsZip ha z TI TO .ellipsis := za
  refine wpAny_bind ?_
  simp only [List.zipIdx_cons, List.zipIdx_nil, List.forIn_cons, List.forIn_nil]
  have st1 : S1 k1 ha := F1.stay s1 fun c o hc q => ka.extBut _ _ (hc.elim (fun t => t ▸ D.i1z) fun t => t ▸ D.l1z) q
  have st2 : S2 k2 ha := F2.stay s2 fun c o hc q => ka.extBut _ _ (hc.elim (fun t => t ▸ D.i2z) fun t => t ▸ D.l2z) q
  refine wpAny_bind (wpAny_bind (wpAny_onRaise ?_))
  show wpAny _ _ (Builtin.SmallTypes.nextOf (.ref i1) >>= _) _ _ _
  refine wpAny_bind (F1.item st1 e1 fun hb t1 kb => wpAny_pure ?_)
  have pO : IsPair hb TO a b := kb.extBut _ _ D.TOi1 (ka.extBut _ _ D.TOz iO)
  refine wpAny_bind (wpAny_seqItems pO rfl (wpAny_bind (wpAny_updateSeq_pair pO fun hc pc kc => ?_)))
  replace pc : IsPair hc TO x b := pc
  refine wpAny_bind (wpAny_letGo (wpAny_pure (wpAny_bind (wpAny_bind (wpAny_onRaise ?_)))))
  show wpAny _ _ (Builtin.SmallTypes.nextOf (.ref i2) >>= _) _ _ _
  have st3 : S2 k2 hc := F2.stay st2 fun c o hq q => kc.extBut _ _ (hq.elim (fun t => t ▸ D.TOi2.symm) fun t => t ▸ D.l2TO) (kb.extBut _ _ (hq.elim (fun t => t ▸ D.i12.symm) fun t => t ▸ D.l2i1) q)
  refine wpAny_bind (F2.item st3 e2 fun hd t2 kd => wpAny_pure ?_)
  have pd : IsPair hd TO x b := kd.extBut _ _ D.TOi2 pc
  refine wpAny_bind (wpAny_seqItems pd rfl (wpAny_bind (wpAny_updateSeq_pair pd fun he pe ke => ?_)))
  replace pe : IsPair he TO x y := pe
  refine wpAny_bind (wpAny_letGo (wpAny_pure (wpAny_pure (wpAny_bind (wpAny_seqItems pe rfl (wpAny_bind (wpAny_newTuple ?_)))))))
  have sz : he.objs.size = s.heap.objs.size := by rw [ke.1, kd.1, kc.1, kb.1, ka.1]
  have ze : IsZip he z TI TO .ellipsis := ke.extBut _ _ D.TOz.symm (kd.extBut _ _ D.i2z.symm (kc.extBut _ _ D.TOz.symm (kb.extBut _ _ D.i1z.symm za)))
  have keep : ∀ c o, c ≠ z → c ≠ TO → c ≠ i1 → c ≠ i2 → s.heap.get? c = some o → he.get? c = some o := fun c o n1 n2 n3 n4 q =>
    ke.extBut _ _ n2 (kd.extBut _ _ n4 (kc.extBut _ _ n2 (kb.extBut _ _ n3 (ka.extBut _ _ n1 q))))
  have u1 : S1 (k1 + 1) he := F1.stay t1 fun c o hq q => ke.extBut _ _ (hq.elim (fun t => t ▸ D.TOi1.symm) fun t => t ▸ D.l1TO) (kd.extBut _ _ (hq.elim (fun t => t ▸ D.i12) fun t => t ▸ D.l1i2) (kc.extBut _ _ (hq.elim (fun t => t ▸ D.TOi1.symm) fun t => t ▸ D.l1TO) q))
  have u2 : S2 (k2 + 1) he := F2.stay t2 fun c o hq q => ke.extBut _ _ (hq.elim (fun t => t ▸ D.TOi2.symm) fun t => t ▸ D.l2TO) q
  have lt1 : z < he.objs.size := lz he ze
  show wpAny _ _ (Builtin.SmallTypes.ownedTupleHandOut (.ref z) (.ref he.objs.size) >>= _) _ _ _
  unfold Builtin.SmallTypes.ownedTupleHandOut
  have zf : IsZip (he.push { cls := .type "tuple", data := .seq #[x, y] }) z TI TO .ellipsis := Heap.get?_push_of_some _ ze
  refine wpAny_bind (wpAny_bind (wpAny_setField_rec zf (by simp) fun hg zg kg => ?_))
  replace zg : IsZip hg z TI TO (rawInt he.objs.size) := zg
  refine wpAny_setField_rec zg (by simp) fun hh zh kh => ?_
  replace zh : IsZip hh z TI TO (rawInt he.objs.size) := zh
  have up : ∀ c o, c ≠ z → he.get? c = some o → hh.get? c = some o := fun c o n q => kh.extBut _ _ n (kg.extBut _ _ n (Heap.get?_push_of_some _ q))
  have pT : IsPair hh he.objs.size x y := kh.extBut _ _ (Nat.ne_of_gt lt1) (kg.extBut _ _ (Nat.ne_of_gt lt1) (Heap.get?_push_size _ rfl))
  have sz2 : hh.objs.size = he.objs.size + 1 := by rw [kh.1, kg.1, Heap.size_push]
  rw [sz] at zh pT sz2
  refine wpAny_pure ⟨_, rfl, ?_⟩
  show Q (.ref he.objs.size) _
  rw [sz]
  exact h hh zh (up _ _ D.TOz pe) (F1.stay u1 fun c o hq q => up c o (hq.elim (fun t => t ▸ D.i1z) fun t => t ▸ D.l1z) q) (F2.stay u2 fun c o hq q => up c o (hq.elim (fun t => t ▸ D.i2z) fun t => t ▸ D.l2z) q) pT sz2
    fun c o n1 n2 n3 n4 q => up c o n1 (keep c o n1 n2 n3 n4 q)
theorem zg_stop {Q : PySem.Fin → Shared → Prop} (nh : A.handled = none) (F1 : Feed P w i1 l1 S1 g1) (F2 : Feed P w i2 l2 S2 g2) (D : ZipApart z TI TO i1 i2 l1 l2) (iz : IsZip s.heap z TI TO .none) (iI : IsPair s.heap TI (.ref i1) (.ref i2)) (iO : IsPair s.heap TO a b)
    (s1 : S1 k1 s.heap) (s2 : S2 k2 s.heap) (e1 : g1 k1 = none ∨ g2 k2 = none)
    (h : ∀ h' e, (∀ c o, c ≠ z → c ≠ TO → c ≠ i1 → c ≠ i2 → s.heap.get? c = some o → h'.get? c = some o) → (∃ o, h'.get? e = some o ∧ o.cls = .type "StopIteration") → E (.ref e) { s with heap := h' }) :
    wpAny (model P w) A (Builtin.«zip.__next__» ⟨[.ref z], []⟩) Q E s := by
  show wpAny _ _ (field (.ref z) 2 >>= _) _ _ _
  refine wpAny_bind (wpAny_field iz rfl (x := .bool false) rfl ?_)
  show wpAny _ _ (field (.ref z) 3 >>= _) _ _ _
  refine wpAny_bind (wpAny_field iz rfl (x := .ref TI) rfl (wpAny_bind (wpAny_seqItems iI rfl ?_)))
  show wpAny _ _ (Builtin.SmallTypes.ownedTupleIsFree (.ref z) >>= _) _ _ _
  unfold Builtin.SmallTypes.ownedTupleIsFree
  refine wpAny_bind (wpAny_bind (wpAny_field iz rfl (x := .none) rfl (wpAny_pure ?_)))
  simp only [if_true]
  refine wpAny_bind (wpAny_rule (wpAny_bind (wpAny_field iz rfl (x := .ref TO) rfl (wpAny_bind (wpAny_setField_rec iz (by simp) fun ha za ka => ?_)))))
  replace za : IsZip ha z TI TO .ellipsis := za
  refine wpAny_bind ?_
  simp only [List.zipIdx_cons, List.zipIdx_nil, List.forIn_cons, List.forIn_nil]
  have st1 : S1 k1 ha := F1.stay s1 fun c o hc q => ka.extBut _ _ (hc.elim (fun t => t ▸ D.i1z) fun t => t ▸ D.l1z) q
  have st2 : S2 k2 ha := F2.stay s2 fun c o hc q => ka.extBut _ _ (hc.elim (fun t => t ▸ D.i2z) fun t => t ▸ D.l2z) q
  refine wpAny_bind (wpAny_bind (wpAny_onRaise ?_))
  show wpAny _ _ (Builtin.SmallTypes.nextOf (.ref i1) >>= _) _ _ _
  cases q1 : g1 k1 with
  | none =>
    refine wpAny_bind (F1.stop nh st1 q1 fun hb e kb he => ?_)
    obtain ⟨oe, ho, hc⟩ := he
    have zb : IsZip hb z TI TO .ellipsis := kb _ _ D.i1z.symm za
    have nz : e ≠ z := fun t => by subst t; rw [zb] at ho; cases ho; simp at hc
    exact wpAny_setField_rec zb (by simp) fun hd _ kd => h hd e (fun c o n1 _ n3 _ q => kd.extBut _ _ n1 (kb _ _ n3 (ka.extBut _ _ n1 q))) ⟨oe, kd.extBut _ _ nz ho, hc⟩
  | some x =>
    have q2 : g2 k2 = none := e1.elim (fun t => by rw [q1] at t; cases t) id
    refine wpAny_bind (F1.item st1 q1 fun hb t1 kb => wpAny_pure ?_)
    have pO : IsPair hb TO a b := kb.extBut _ _ D.TOi1 (ka.extBut _ _ D.TOz iO)
    refine wpAny_bind (wpAny_seqItems pO rfl (wpAny_bind (wpAny_updateSeq_pair pO fun hc pc kc => wpAny_bind (wpAny_letGo (wpAny_pure (wpAny_bind (wpAny_bind (wpAny_onRaise ?_))))))))
    show wpAny _ _ (Builtin.SmallTypes.nextOf (.ref i2) >>= _) _ _ _
    have st3 : S2 k2 hc := F2.stay st2 fun c o hq q => kc.extBut _ _ (hq.elim (fun t => t ▸ D.TOi2.symm) fun t => t ▸ D.l2TO) (kb.extBut _ _ (hq.elim (fun t => t ▸ D.i12.symm) fun t => t ▸ D.l2i1) q)
    refine wpAny_bind (F2.stop nh st3 q2 fun hd e kd he => ?_)
    obtain ⟨oe, ho, hc'⟩ := he
    have zd : IsZip hd z TI TO .ellipsis := kd _ _ D.i2z.symm (kc.extBut _ _ D.TOz.symm (kb.extBut _ _ D.i1z.symm za))
    have nz : e ≠ z := fun t => by subst t; rw [zd] at ho; cases ho; simp at hc'
    exact wpAny_setField_rec zd (by simp) fun hf _ kf => h hf e (fun c o n1 n2 n3 n4 q => kf.extBut _ _ n1 (kd _ _ n4 (kc.extBut _ _ n2 (kb.extBut _ _ n3 (ka.extBut _ _ n1 q))))) ⟨oe, kf.extBut _ _ nz ho, hc'⟩
theorem zg_next {Q : Option Value → Shared → Prop} (F1 : Feed P w i1 l1 S1 g1) (F2 : Feed P w i2 l2 S2 g2) (D : ZipApart z TI TO i1 i2 l1 l2) (iz : IsZip s.heap z TI TO .none) (iI : IsPair s.heap TI (.ref i1) (.ref i2)) (iO : IsPair s.heap TO a b)
    (s1 : S1 k1 s.heap) (s2 : S2 k2 s.heap) (e1 : g1 k1 = some x) (e2 : g2 k2 = some y) (f1 : ∀ k h, S1 k h → ∃ o, h.get? i1 = some o) (f2 : ∀ k h, S2 k h → ∃ o, h.get? i2 = some o)
    (h : ∀ h', IsZip h' z TI TO (rawInt s.heap.objs.size) → IsPair h' TO x y → S1 (k1 + 1) h' → S2 (k2 + 1) h' → IsPair h' s.heap.objs.size x y → h'.objs.size = s.heap.objs.size + 1 →
      (∀ c o, c ≠ z → c ≠ TO → c ≠ i1 → c ≠ i2 → s.heap.get? c = some o → h'.get? c = some o) → Q (some (.ref s.heap.objs.size)) { s with heap := h' }) :
    wpAny (model P w) A (pyNext (.ref z)) Q E s := by
  have ty : s.TypeIs (.ref z) "zip" := ⟨_, iz, rfl⟩
  unfold pyNext
  exact wpAny_bind (wpAny_attempt (wpAny_callSpecial?_slot (name := Str.ofString "__next__") ty PySem.F.slot_zip_next (wpAny_call_entry PySem.F.slot_zip_next ty PySem.F.entry_zip_next
    (zg_item F1 F2 D iz iI iO s1 s2 e1 e2 (fun _ t => Heap.lt_size t) (fun h' b1 b2 b3 b4 b5 b6 b7 => wpAny_pure (h h' b1 b2 b3 b4 b5 b6 b7)) f1 f2) (PySem.F.args_zip_next_1 _))))
theorem zg_end {Q : Option Value → Shared → Prop} (nh : A.handled = none) (F1 : Feed P w i1 l1 S1 g1) (F2 : Feed P w i2 l2 S2 g2) (D : ZipApart z TI TO i1 i2 l1 l2) (iz : IsZip s.heap z TI TO .none) (iI : IsPair s.heap TI (.ref i1) (.ref i2)) (iO : IsPair s.heap TO a b)
    (s1 : S1 k1 s.heap) (s2 : S2 k2 s.heap) (e1 : g1 k1 = none ∨ g2 k2 = none) (h : ∀ h', (∀ c o, c ≠ z → c ≠ TO → c ≠ i1 → c ≠ i2 → s.heap.get? c = some o → h'.get? c = some o) → Q none { s with heap := h' }) :
    wpAny (model P w) A (pyNext (.ref z)) Q E s := by
  have ty : s.TypeIs (.ref z) "zip" := ⟨_, iz, rfl⟩
  unfold pyNext
  refine wpAny_bind (wpAny_attempt (wpAny_callSpecial?_slot (name := Str.ofString "__next__") ty PySem.F.slot_zip_next (wpAny_call_entry PySem.F.slot_zip_next ty PySem.F.entry_zip_next
    (zg_stop nh F1 F2 D iz iI iO s1 s2 e1 fun h' e k he => ?_) (PySem.F.args_zip_next_1 _))))
  obtain ⟨o, ho, hc⟩ := he
  exact wpAny_bind (wpAny_isInstance (T := "StopIteration") (b := true) ⟨o, ho, hc⟩ isSubtype_stop (wpAny_pure (h _ k)))
end
/-! ### zip(t, l) is made -/
abbrev zm1 (h : Heap) (t : Addr) : Heap := h.push { cls := .type "tuple_iterator", data := .fields #[.ref t, .int 0 0] }
abbrev zm2 (h : Heap) (t l : Addr) : Heap := (zm1 h t).push { cls := .type "list_iterator", data := .fields #[.ref l, .int 0 0] }
abbrev zm3 (h : Heap) (t l : Addr) : Heap := (zm2 h t l).push { cls := .type "tuple", data := .seq #[.ref h.objs.size, .ref (zm1 h t).objs.size] }
abbrev zm4 (h : Heap) (t l : Addr) : Heap := (zm3 h t l).push { cls := .type "tuple", data := .seq #[.none, .none] }
abbrev zm5 (h : Heap) (t l : Addr) : Heap := (zm4 h t l).push { cls := .type "zip", data := .fields #[.none, .bool false, .bool false, .ref (zm2 h t l).objs.size, .ref (zm3 h t l).objs.size] }
theorem zm_new (t l : Addr) (xs ys : Array Value) :
    Meets (Builtin.«zip.__new__» ⟨[.type "zip", .ref t, .ref l], []⟩) (fun _ R s => s.heap.IsTuple t xs ∧ s.heap.IsList l ys ∧ R (.ok (.ret (.ref (zm4 s.heap t l).objs.size))) { s with heap := zm5 s.heap t l }) :=
  .of_wp fun prog w A R s ⟨ht, hl, h⟩ => by
    obtain ⟨hp, g, d, tk, os⟩ := s
    have sub := sub_zip
    have a1 : Heap.IsTuple (Shared.heap ⟨hp, g, d, tk, os⟩) t xs := ht
    have a2 : Heap.IsList (Shared.heap ⟨hp.push { cls := .type "tuple_iterator", data := .fields #[.ref t, .int 0 0] }, g, d, tk, os⟩) l ys := Heap.IsList.push hl _
    wp_walk using wpAny_pyIter_tuple a1, wpAny_pyIter_list a2
    exact ⟨_, rfl, h⟩
theorem call_zipM {P : Program} {w : World} {A : Around} {E : Value → Shared → Prop} {s : Shared} {t l : Addr} {xs ys : Array Value} {Q : Value → Shared → Prop} (ht : s.heap.IsTuple t xs) (hl : s.heap.IsList l ys)
    (h : ∀ h', IsZip h' (s.heap.objs.size + 4) (s.heap.objs.size + 2) (s.heap.objs.size + 3) .none → IsPair h' (s.heap.objs.size + 2) (.ref s.heap.objs.size) (.ref (s.heap.objs.size + 1)) → IsPair h' (s.heap.objs.size + 3) .none .none →
      h'.IsTupleIter s.heap.objs.size t 0 → h'.IsListIter (s.heap.objs.size + 1) l 0 → (∀ c o, s.heap.get? c = some o → h'.get? c = some o) → Q (.ref (s.heap.objs.size + 4)) { s with heap := h' }) :
    wpAny (model P w) A (call (.type "zip") [.ref t, .ref l]) Q E s := by
  have n1 : (zm1 s.heap t).objs.size = s.heap.objs.size + 1 := Heap.size_push ..
  have n2 : (zm2 s.heap t l).objs.size = s.heap.objs.size + 2 := by rw [Heap.size_push, n1]
  have n3 : (zm3 s.heap t l).objs.size = s.heap.objs.size + 3 := by rw [Heap.size_push, n2]
  have n4 : (zm4 s.heap t l).objs.size = s.heap.objs.size + 4 := by rw [Heap.size_push, n3]
  have up4 : ∀ {c o}, (zm4 s.heap t l).get? c = some o → (zm5 s.heap t l).get? c = some o := fun q => Heap.get?_push_of_some _ q
  have up3 : ∀ {c o}, (zm3 s.heap t l).get? c = some o → (zm5 s.heap t l).get? c = some o := fun q => up4 (Heap.get?_push_of_some _ q)
  have up2 : ∀ {c o}, (zm2 s.heap t l).get? c = some o → (zm5 s.heap t l).get? c = some o := fun q => up3 (Heap.get?_push_of_some _ q)
  have up1 : ∀ {c o}, (zm1 s.heap t).get? c = some o → (zm5 s.heap t l).get? c = some o := fun q => up2 (Heap.get?_push_of_some _ q)
  have o5 : (zm5 s.heap t l).get? (zm4 s.heap t l).objs.size = some _ := Heap.get?_push_size _ rfl
  have o4 : (zm5 s.heap t l).get? (zm3 s.heap t l).objs.size = some _ := up4 (Heap.get?_push_size _ rfl)
  have o3 : (zm5 s.heap t l).get? (zm2 s.heap t l).objs.size = some _ := up3 (Heap.get?_push_size _ rfl)
  have o2 : (zm5 s.heap t l).get? (zm1 s.heap t).objs.size = some _ := up2 (Heap.get?_push_size _ rfl)
  have o1 : (zm5 s.heap t l).get? s.heap.objs.size = some _ := up1 (Heap.get?_push_size _ rfl)
  refine callType_new PySem.F.called_zip (by decide) (PySem.F.typeCall_zip_2 _ _) (PySem.F.newCall_zip_2 _ _) (fun obj => PySem.F.args_object_init_3 obj _ _) PySem.F.entry_zip_new (zm_new t l xs ys) ⟨ht, hl, ?_⟩
  show _ ∧ _
  rw [n2, n3, n4] at o5
  rw [n3] at o4
  rw [n1, n2] at o3
  rw [n1] at o2
  rw [n4]
  exact ⟨⟨_, o5, rfl⟩, h _ o5 o3 o4 ⟨_, o1, rfl, rfl⟩ ⟨_, o2, rfl, rfl⟩ fun c o q => up1 (Heap.get?_push_of_some _ q)⟩
/-- the tuple at a and the list at b, the items in new pairs -/
def ItzM (K : PySem.W.Frag) (a b : Addr) : It :=
  ⟨fun i H => ∃ (xs ys : List V) (x y : V), SqT K H a xs ∧ SqL K H b ys ∧ xs[i]? = some x ∧ ys[i]? = some y,
    fun i H v H' => ∃ T x y, v = .ref T ∧ H T = none ∧ H' = upd H T (.tup [x, y]) ∧ (∀ xs, SqT K H a xs → xs[i]? = some x) ∧ ∀ ys, SqL K H b ys → ys[i]? = some y,
    fun i H => ∃ xs ys : List V, SqT K H a xs ∧ SqL K H b ys ∧ (xs.length ≤ i ∨ ys.length ≤ i)⟩
theorem turn_zipM {P : Program} {w : World} {K : PySem.W.Frag} {elts : List Expr} {kk : Nat} {tpos : Pos} {a b z TI TO i1 i2 : Addr} (D : ZipApart z TI TO i1 i2 a b) :
    Turn P w K (.Tuple elts kk tpos) (ItzM K a b) [z, TI, TO, i1, i2] z (fun i h => IsZip h z TI TO .none ∧ IsPair h TI (.ref i1) (.ref i2) ∧ (∃ x y, IsPair h TO x y) ∧ h.IsTupleIter i1 a i ∧ h.IsListIter i2 b i) where
  mem := by simp
  obj := fun i h ⟨hz, hI, ⟨x, y, hO⟩, ⟨o1, e1, _, d1⟩, ⟨o2, e2, _, d2⟩⟩ c hc => by
    simp only [List.mem_cons, List.not_mem_nil, or_false] at hc
    rcases hc with q | q | q | q | q <;> rw [q]
    · exact ⟨_, hz, fun v q => nomatch q⟩
    · exact ⟨_, hI, fun v q => nomatch q⟩
    · exact ⟨_, hO, fun v q => nomatch q⟩
    · exact ⟨o1, e1, fun v q => by rw [d1] at q; cases q⟩
    · exact ⟨o2, e2, fun v q => by rw [d2] at q; cases q⟩
  keep := fun i h h' ⟨hz, hI, ⟨x, y, hO⟩, j1, j2⟩ k =>
    ⟨k z (by simp) _ hz, k TI (by simp) _ hI, ⟨x, y, k TO (by simp) _ hO⟩, j1.at fun o q => k i1 (by simp) o q, j2.at fun o q => k i2 (by simp) o q⟩
  item := by
    intro X hP hw hK hc i pins s σ H E I hf ⟨hz, hI, ⟨x0, y0, hO⟩, j1, j2⟩ ⟨xs, ys, x, y, qx, qy, hx, hy⟩
    subst hP hw hK
    obtain ⟨its, rv, p, _⟩ := I.tuple qx
    obtain ⟨its2, rv2, p2, _⟩ := I.list qy
    obtain ⟨u, hu, ru⟩ := rv.get hx
    obtain ⟨u2, hu2, ru2⟩ := rv2.get hy
    have zlt : z < s.heap.objs.size := Heap.lt_size hz
    refine zg_next (feed_tup (xs := its.toArray) D.l1i1) (feed_lst (xs := its2.toArray) D.l2i2) D hz hI hO (k1 := i) (k2 := i) (x := u) (y := u2) ⟨j1, p⟩ ⟨j2, p2.isList⟩ (by simpa using hu) (by simpa using hu2) (fun _ _ t => let ⟨o, e, _⟩ := t.1; ⟨o, e⟩) (fun _ _ t => let ⟨o, e, _⟩ := t.1; ⟨o, e⟩) fun h' z' O' t1 t2 pT hsz hk => ?_
    refine ⟨_, rfl, wpAny_letOwnedTupleGo_zip (s := { s with heap := h' }) z' fun h'' z'' sb => ?_⟩
    have pT2 : h''.get? s.heap.objs.size = some { cls := .type "tuple", data := .seq #[u, u2] } := (sb.2 _ (Nat.ne_of_gt zlt)).trans pT
    have new : ObjOk X.prog X.w (upd H s.heap.objs.size (.tup [x, y])) h'' s.heap.objs.size (.tup [x, y]) := ⟨by show 2 ≤ sizeLine; decide, [u, u2], .cons ru (.cons ru2 .nil), ⟨_, pT2, rfl, _, rfl⟩⟩
    have I1 : Inv X pins σ (upd H s.heap.objs.size (.tup [x, y])) { s with heap := h'' } := I.turnedNew (t' := s.toks) (ch := [z, TI, TO, i1, i2]) (fun c o hb q => by
      simp only [List.mem_cons, List.not_mem_nil, or_false, not_or] at hb
      exact (sb.2 c hb.1).trans (hk c o hb.1 hb.2.2.1 hb.2.2.2.1 hb.2.2.2.2 q)) hf (Nat.le_refl _) new
    refine ⟨.ref s.heap.objs.size, _, I1, rfl, ⟨_, x, y, rfl, I.hok.fresh (Nat.le_refl _), rfl, fun l hl => by rw [I.tuple_inj hl qx]; exact hx, fun l hl => by rw [I.list_inj hl qy]; exact hy⟩, ⟨z'', ?_, ⟨u, u2, ?_⟩, ?_, ?_⟩, fun c hcm => ?_⟩
    · exact (sb.2 _ D.TIz).trans (hk _ _ D.TIz D.TITO D.TIi1 D.TIi2 hI)
    · exact (sb.2 _ D.TOz).trans O'
    · exact t1.1.at fun o q => (sb.2 _ D.i1z).trans q
    · exact t2.1.at fun o q => (sb.2 _ D.i2z).trans q
    · have lt : c < s.heap.objs.size := by
        simp only [List.mem_cons, List.not_mem_nil, or_false] at hcm
        rcases hcm with q | q | q | q | q <;> rw [q]
        · exact zlt
        · exact Heap.lt_size hI
        · exact Heap.lt_size hO
        · exact let ⟨_, e, _⟩ := j1; Heap.lt_size e
        · exact let ⟨_, e, _⟩ := j2; Heap.lt_size e
      rw [upd_ne (Nat.ne_of_lt lt)]
      exact (hf c hcm).1
  done := by
    intro X hP hw hK hc i pins s σ H E I hf ⟨hz, hI, ⟨x0, y0, hO⟩, j1, j2⟩ ⟨xs, ys, qx, qy, hend⟩
    subst hP hw hK
    obtain ⟨its, rv, p, _⟩ := I.tuple qx
    obtain ⟨its2, rv2, p2, _⟩ := I.list qy
    have l1 := rv.length
    have l2 := rv2.length
    refine zg_end (I.ok.hd hc) (feed_tup (xs := its.toArray) D.l1i1) (feed_lst (xs := its2.toArray) D.l2i2) D hz hI hO (k1 := i) (k2 := i) ⟨j1, p⟩ ⟨j2, p2.isList⟩ (hend.imp (fun q => by simp; omega) (fun q => by simp; omega)) fun h' hk => ⟨rfl, I.turnedL (t' := s.toks) (ch := [z, TI, TO, i1, i2]) (fun c o hb q => ?_) hf⟩
    simp only [List.mem_cons, List.not_mem_nil, or_false, not_or] at hb
    exact hk c o hb.1 hb.2.2.1 hb.2.2.2.1 hb.2.2.2.2 q
  self := fun A i s Q E st h => wpAny_pyIter_zip st.1 h
def iZipM (K : PySem.W.Frag) (ta : TA) : TI := fun σ H R => ta σ H fun vs H1 => ∃ a b xs ys, vs = [.ref a, .ref b] ∧ SqT K H1 a xs ∧ SqL K H1 b ys ∧ R (ItzM K a b) H1
theorem pi_zipM {X : Cx} {e e2 : Expr} {ta : TA} {p pos tpos : Pos} {elts : List Expr} {kk : Nat} (hg : Gl X "zip") (hm : X.mg "zip" = none) (ha : PA X [e, e2] ta)
    (hs : starEach [e, e2] X.env = (false, eval e X.env) :: starEach [e2] X.env := by rfl) (hpl : (backTo pos (starEach [e2] X.env)).any (·.1) = false := by rfl) :
    PI X (.Tuple elts kk tpos) (.Call (.Name "zip" p) [e, e2] [] pos) (iZipM X.K ta) := by
  refine ⟨fun pins s σ H R I h => ?_⟩
  refine Call_ (ld_blt I hg hm PyProof.Rows.boot_zip (PyProof.Rows.callWith_type1 (thn (ha.run pos pins s σ H _ I h) fun us s1 ⟨vs, H1, I1, r1, a, b, xs, ys, ex, qx, qy, q⟩ => ?_) hs hpl))
  subst ex
  cases r1 with
  | cons r rr =>
    cases rr with
    | cons r' rr =>
      cases rr
      cases r
      cases r'
      obtain ⟨its, rv, p1, _⟩ := I1.tuple qx
      obtain ⟨its2, rv2, p2, _⟩ := I1.list qy
      obtain ⟨o1, ho1, _⟩ := id p1
      refine call_zipM (show s1.heap.IsTuple a its.toArray from p1) p2.isList fun h' hz hI hO j1 j2 hk => wpAny_pyIter_zip hz ?_
      refine ⟨s1.heap.objs.size + 4, [s1.heap.objs.size + 4, s1.heap.objs.size + 2, s1.heap.objs.size + 3, s1.heap.objs.size, s1.heap.objs.size + 1], _, _, H1, rfl, I1.kept (t' := s1.toks) hk, turn_zipM (PySem.W.ktu_apart s1.heap.objs.size a b (Heap.lt_size ho1) p2.lt), ⟨hz, hI, ⟨_, _, hO⟩, j1, j2⟩, fun c hcm => ?_, q⟩
      have ge : s1.heap.objs.size ≤ c := by
        simp only [List.mem_cons, List.not_mem_nil, or_false] at hcm
        rcases hcm with q | q | q | q | q <;> rw [q] <;> first | exact Nat.le_refl _ | exact Nat.le_add_right _ _
      exact I1.fpOk ge (I1.hok.fresh ge)

/-! ### .. by data -/
variable [TabC]
theorem walk_zipM {K : PySem.W.Frag} {a b : Addr} {xs ys : List V} {n : Nat} (hn : n = min xs.length ys.length) : Walk (ItzM K a b) n (fun H => SqT K H a xs ∧ SqL K H b ys) (YPair (fun i => xs[i]?) (fun i => ys[i]?)) := by
  subst hn
  refine ⟨fun i _ hi q => ?_, fun _ q => ⟨xs, ys, q.1, q.2, by omega⟩, fun i H v H' _ q y => ?_⟩
  · have h1 : i < xs.length := by omega
    have h2 : i < ys.length := by omega
    exact ⟨xs, ys, xs[i], ys[i], q.1, q.2, by simp [h1], by simp [h2]⟩
  · obtain ⟨T, x, z, h1, h2, h3, h4, h5⟩ := y
    exact ⟨T, x, z, h1, h2, h3, h4 xs q.1, h5 ys q.2⟩
def iZm (U : TAD) : TID := fun ε P => U ε fun ds => ∃ xs ys, ds = [.tup xs, .lst ys] ∧ P (zipD xs ys)
theorem pid_zipM {X : Cx} {a b : Expr} {p pos tpos : Pos} {elts : List Expr} {kk c : Nat} {U : TAD} (hg : Gl X "zip") (hm : X.mg "zip" = none) (ha : PAD X c [a, b] U) (hs : starEach [a, b] X.env = (false, eval a X.env) :: starEach [b] X.env := by rfl) (hpl : (backTo pos (starEach [b] X.env)).any (·.1) = false := by rfl) :
    PID true X c (.Tuple elts kk tpos) (.Call (.Name "zip" p) [a, b] [] pos) (iZm U) :=
  pi_weak (pi_zipM hg hm ha (hs := hs) (hpl := hpl)) fun σ H R ⟨A, B, F, ε, P, n, r, bx, hn, t, k⟩ =>
    ⟨A, B, F, ε, _, n, r, bx, hn, t, fun vs F' H' ds g q ⟨xs, ys, e1, p⟩ => by
      subst e1
      cases q with
      | cons q1 q2 =>
        cases q2 with
        | cons q2 q3 =>
          cases q3
          cases q1 with
          | @tup a vs xs o h1 hd h2 =>
            cases q2 with
            | @lst b ws ys h3 h4 =>
              refine ⟨a, b, vs, ws, rfl, KT.sq ⟨_, g.sub _ _ h1, hd⟩, SqL.of (g.sub _ _ h3), k _ F' H' _ g ?_ p⟩
              unfold WalkD
              rw [zipD_len, ← h2.length, ← h4.length]
              exact (walk_zipM rfl).mono (fun H'' e => ⟨KT.sq ⟨_, e _ _ h1, hd⟩, SqL.of (e _ _ h3)⟩) fun i H'' x H3 hi hg y => yd_zip h2 h4 y⟩
@[simp] theorem u_iZm {U : TAD} {ε : Ev} {P : List Dat → Prop} : iZm U ε P = U ε fun ds => ∃ xs ys, ds = [.tup xs, .lst ys] ∧ P (zipD xs ys) := rfl
end DL
set_option maxRecDepth 100000
set_option maxHeartbeats 2000000
/-! DL18: a def whose own code object is known. -/
namespace DL
open PySem PySem.Spec PyProof.Rows L2 RZ LamX
section
variable {P : Program} {w : World} {K : PySem.W.Frag} {mg : Str → Option Value} {base : Heap} {x qual : Str} {params : Arguments} {body : List Stmt} {scope : Scope} {dvs : List V} {kws : List (Str × V)} {f cA : Addr} {fd : FuncData}
theorem fun_code (F : FunD K x qual params body scope dvs kws f fd) : ∃ c oc od osl, fd.code = .ref c ∧ K.lookup f = some ⟨oc, od, .func fd, osl⟩ := by
  obtain ⟨oc, od, dV, kV, doc, pm, an, cdv, ct, osl, rfl, lk, hcd, _, _⟩ := F.ex
  obtain ⟨c, rfl⟩ := He.codeIn_ref hcd
  exact ⟨c, oc, od, osl, rfl, lk⟩
theorem fun_okC {CX : CXT} {N ps : List Str} {k : Nat} {sp : Sp} (F : FunD K x qual params body scope dvs kws f fd) (hc : fd.code = .ref cA) (S : FnScope N ps scope) (len : ∀ vs H Q E, sp vs H Q E → vs.length = ps.length)
    (hbody : ∀ (A : Around) (outer : List Env) (s : Shared) (H : Hp) (vs : List V) (Q : VK) (E : XK), Room k (A.deeper (envOfC qual scope s.heap.objs.size f (.ref cA))) → sp vs H Q E →
      ∃ t, PSs (cxOf CX P w K mg base N qual scope f (.ref cA) A outer s H E) body t ∧ t { nx := fun _ H' => Q .non H', rt := Q } (L2.start N vs) H) : FnOk P w K mg base CX (k + 1) f fd ps sp := by
  obtain ⟨oc, od, dV, kV, doc, pm, an, cdv, ct, osl, rfl, lk, hcd, _, _⟩ := F.ex
  have e : cdv = .ref cA := hc
  subst e
  exact fn_of lk hcd S len fun A outer s H vs Q E hr hsp => hbody A outer s H vs Q E hr hsp
variable [TabC]
theorem okC {N ps : List Str} {k c : Nat} {S : List Dat → (Dat → Prop) → Prop} (F : FunD K x qual params body scope [] [] f fd) (hc : fd.code = .ref cA) (Sc : FnScope N ps scope) (len : ∀ ds Q, S ds Q → ds.length = ps.length)
    (hbody : ∀ (A : Around) (outer : List Env) (s : Shared) (H : Hp) (E : XK), Room k (A.deeper (envOfC qual scope s.heap.objs.size f (.ref cA))) →
      ∃ T, SDs (cxOf CX0 P w K mg base N qual scope f (.ref cA) A outer s H E).nox c body T ∧ ∀ ds Q, S ds Q → T { nx := fun _ => Q .non, rt := Q } (startD N ds)) : FnOk P w K mg base CX0 (k + 1) f fd ps (spF c S) := by
  refine fun_okC F hc Sc (fun vs H Q E ⟨B, F, ds, P, n, ex, bx, box, hn, r, hS, kk⟩ => r.length.trans (len ds P hS)) fun A outer s H vs Q E hr ⟨B, F', ds, P', n, ex, bx, box, hn, r, hS, kk⟩ => ?_
  obtain ⟨T, d, hT⟩ := hbody A outer s H E hr
  refine ⟨_, PSs.nox d, fun a => H a = none, B, F', startD N ds, _, n, rs_start ex bx r, box, hn, hT ds P' hS, fun F2 H2 σ' ε' g r2 p => ?_, fun F2 H2 σ' ε' g r2 p => p.elim, fun F2 H2 σ' ε' g r2 p => p.elim, fun v F2 H2 d g q p => ?_⟩
  · exact kk .non F2 H2 .non g.toNo .non p
  · exact kk v F2 H2 d g.toNo q p
end
/-- ghost: the owned list at slot i is from the statement's end on a value that stays -/
def sAft (i : Nat) (T : TSD) : TSD := fun E ε => T { E with nx := fun ε' => ∃ d, ε'[i]? = some (.own d) ∧ E.nx (ε'.set i (.val d)) } ε
theorem SD.aft [TabC] {X : Cx} {c : Nat} {st : Stmt} {Ts : TSD} (i : Nat) (h : SD X c st Ts) : SD X c st (sAft i Ts) := ps_weak h fun D σ H ⟨A, B, F, ε, E, n, r, bx, hn, t, k1, k2, k3, k4⟩ =>
  ⟨A, B, F, ε, _, n, r, bx, hn, t, fun F' H' σ' ε' g r' ⟨d, hd, z⟩ => by
    obtain ⟨F2, r2, g0⟩ := r'.freeze hd
    exact k1 F2 H' σ' _ ((g.trans g0).mono (by omega)) r2 z, k2, k3, k4⟩
@[simp] theorem u_sAft {i : Nat} {T : TSD} {E : DE} {ε : Ev} : sAft i T E ε = T { E with nx := fun ε' => ∃ d, ε'[i]? = some (.own d) ∧ E.nx (ε'.set i (.val d)) } ε := rfl
end DL
/-! M1: whom a right takes: greedy by the ranking, with seats and limits for groups. -/
namespace M90
def grd (gp : Nat → Nat) : List Nat → Nat → (Nat → Nat) → (Nat → Bool) → List Nat
  | [], _, _, _ => []
  | l :: ρ, s, lim, S => if (S l && decide (0 < s) && decide (0 < lim (gp l))) = true then l :: grd gp ρ (s - 1) (fun g => if g = gp l then lim g - 1 else lim g) S else grd gp ρ s lim S
variable {gp : Nat → Nat}
theorem grd_sub {ρ : List Nat} {s : Nat} {lim : Nat → Nat} {S : Nat → Bool} {l : Nat} (h : l ∈ grd gp ρ s lim S) : l ∈ ρ ∧ S l = true := by
  induction ρ generalizing s lim with
  | nil => simp [grd] at h
  | cons a ρ ih =>
    unfold grd at h
    split at h
    · rename_i hc
      simp only [Bool.and_eq_true] at hc
      rcases List.mem_cons.mp h with e | h
      · subst e; exact ⟨by simp, hc.1.1⟩
      · have := ih h; exact ⟨by simp [this.1], this.2⟩
    · have := ih h; exact ⟨by simp [this.1], this.2⟩
theorem grd_sublist {ρ : List Nat} {s : Nat} {lim : Nat → Nat} {S : Nat → Bool} : (grd gp ρ s lim S).Sublist ρ := by
  induction ρ generalizing s lim with
  | nil => simp [grd]
  | cons a ρ ih =>
    unfold grd
    split
    · exact (ih).cons₂ a
    · exact (ih).cons a
theorem grd_nodup {ρ : List Nat} (h : ρ.Nodup) {s : Nat} {lim : Nat → Nat} {S : Nat → Bool} : (grd gp ρ s lim S).Nodup := grd_sublist.nodup h
theorem grd_len {ρ : List Nat} {s : Nat} {lim : Nat → Nat} {S : Nat → Bool} : (grd gp ρ s lim S).length ≤ s := by
  induction ρ generalizing s lim with
  | nil => simp [grd]
  | cons a ρ ih =>
    unfold grd
    split
    · rename_i hc
      simp only [Bool.and_eq_true, decide_eq_true_eq] at hc
      have := @ih (s - 1) (fun g => if g = gp a then lim g - 1 else lim g)
      simp
      omega
    · exact ih
theorem grd_zero {ρ : List Nat} {lim : Nat → Nat} {S : Nat → Bool} : grd gp ρ 0 lim S = [] := List.eq_nil_of_length_eq_zero (by have := @grd_len gp ρ 0 lim S; omega)
/-- what is taken of more is taken of less -/
theorem grd_congr {ρ : List Nat} {s : Nat} {lim lim' : Nat → Nat} {S S' : Nat → Bool} (h : ∀ l ∈ ρ, S l = S' l) (h' : ∀ l ∈ ρ, lim (gp l) = lim' (gp l)) : grd gp ρ s lim S = grd gp ρ s lim' S' := by
  induction ρ generalizing s lim lim' with
  | nil => rfl
  | cons a ρ ih =>
    unfold grd
    rw [h a (by simp), h' a (by simp)]
    split
    · rw [ih (fun l hl => h l (by simp [hl])) fun l hl => ?_]
      by_cases e : gp l = gp a
      · simp only [e, if_true]
        rw [h' a (by simp)]
      · simp only [if_neg e]
        exact h' l (by simp [hl])
    · exact ih (fun l hl => h l (by simp [hl])) fun l hl => h' l (by simp [hl])
/-- a sum over the groups below four -/
def s4 (f : Nat → Nat) : Nat := f 0 + f 1 + f 2 + f 3
theorem s4_dec {f : Nat → Nat} {g : Nat} (hg : g < 4) (h : 0 < f g) : s4 (fun x => if x = g then f x - 1 else f x) + 1 = s4 f := by
  unfold s4
  match g, hg with
  | 0, _ => simp; omega
  | 1, _ => simp; omega
  | 2, _ => simp; omega
  | 3, _ => simp; omega
/-- SUB and LAD at once: A within B -/
theorem grd_mono {ρ : List Nat} {sA sB : Nat} {lA lB : Nat → Nat} {A B : Nat → Bool} (hg : ∀ l ∈ ρ, gp l < 4) (hAB : ∀ l, A l = true → B l = true) (hl : ∀ g, lB g ≤ lA g) (hs : sA + s4 lB = sB + s4 lA) :
    (∀ l, l ∈ grd gp ρ sB lB B → A l = true → l ∈ grd gp ρ sA lA A) ∧ (grd gp ρ sA lA A).length + sB ≤ (grd gp ρ sB lB B).length + sA := by
  induction ρ generalizing sA sB lA lB with
  | nil =>
    refine ⟨fun l h => by simp [grd] at h, ?_⟩
    have h0 := hl 0
    have h1 := hl 1
    have h2 := hl 2
    have h3 := hl 3
    unfold s4 at hs
    simp [grd]
    omega
  | cons a ρ ih =>
    by_cases h0 : sB = 0
    · subst h0
      rw [grd_zero]
      refine ⟨fun l h => by simp at h, ?_⟩
      have := @grd_len gp (a :: ρ) sA lA A
      simp
      exact this
    have hle : s4 lB ≤ s4 lA := by
      have h0 := hl 0
      have h1 := hl 1
      have h2 := hl 2
      have h3 := hl 3
      unfold s4
      omega
    have hga := hg a (by simp)
    have hg' : ∀ l ∈ ρ, gp l < 4 := fun l h => hg l (by simp [h])
    unfold grd
    by_cases hB : (B a && decide (0 < sB) && decide (0 < lB (gp a))) = true
    · rw [if_pos hB]
      simp only [Bool.and_eq_true, decide_eq_true_eq] at hB
      have hlb := s4_dec hga hB.2
      by_cases hA : A a = true
      · have hA' : (A a && decide (0 < sA) && decide (0 < lA (gp a))) = true := by
          simp only [Bool.and_eq_true, decide_eq_true_eq]
          have := hl (gp a)
          exact ⟨⟨hA, by omega⟩, by omega⟩
        rw [if_pos hA']
        simp only [Bool.and_eq_true, decide_eq_true_eq] at hA'
        have hla := s4_dec hga hA'.2
        obtain ⟨i1, i2⟩ := ih (sA := sA - 1) (sB := sB - 1) (lA := fun g => if g = gp a then lA g - 1 else lA g) (lB := fun g => if g = gp a then lB g - 1 else lB g) hg' (fun g => by have := hl g; split <;> omega) (by omega)
        refine ⟨fun l h hl => ?_, by simp; omega⟩
        rcases List.mem_cons.mp h with e | h
        · subst e; simp
        · exact List.mem_cons_of_mem _ (i1 l h hl)
      · have hA' : ¬ (A a && decide (0 < sA) && decide (0 < lA (gp a))) = true := by simp [hA]
        rw [if_neg hA']
        obtain ⟨i1, i2⟩ := ih (sA := sA) (sB := sB - 1) (lA := lA) (lB := fun g => if g = gp a then lB g - 1 else lB g) hg' (fun g => by have := hl g; split <;> omega) (by omega)
        refine ⟨fun l h hl => ?_, by simp; omega⟩
        rcases List.mem_cons.mp h with e | h
        · subst e; exact absurd hl hA
        · exact i1 l h hl
    · rw [if_neg hB]
      by_cases hA : (A a && decide (0 < sA) && decide (0 < lA (gp a))) = true
      · rw [if_pos hA]
        simp only [Bool.and_eq_true, decide_eq_true_eq] at hA
        have hB0 : lB (gp a) = 0 := by
          simp only [Bool.and_eq_true, decide_eq_true_eq] at hB
          have := hAB a hA.1.1
          cases e : lB (gp a) with
          | zero => rfl
          | succ n => exact (hB ⟨⟨this, by omega⟩, by omega⟩).elim
        have hla := s4_dec hga hA.2
        obtain ⟨i1, i2⟩ := ih (sA := sA - 1) (sB := sB) (lA := fun g => if g = gp a then lA g - 1 else lA g) (lB := lB) hg' (fun g => by
          have := hl g
          show lB g ≤ if g = gp a then lA g - 1 else lA g
          split
          · rename_i e; subst e; omega
          · exact this) (by omega)
        refine ⟨fun l h hl => List.mem_cons_of_mem _ (i1 l h hl), by simp; omega⟩
      · rw [if_neg hA]
        exact ih hg' hl hs
/-- what is left out may go (IRC) -/
theorem grd_irc {ρ : List Nat} {s : Nat} {lim : Nat → Nat} {A B : Nat → Bool} (hAB : ∀ l, A l = true → B l = true) (h : ∀ l, l ∈ grd gp ρ s lim B → A l = true) : grd gp ρ s lim A = grd gp ρ s lim B := by
  induction ρ generalizing s lim with
  | nil => rfl
  | cons a ρ ih =>
    unfold grd at h ⊢
    by_cases hB : (B a && decide (0 < s) && decide (0 < lim (gp a))) = true
    · rw [if_pos hB] at h
      have hA : A a = true := h a (by simp)
      simp only [Bool.and_eq_true, decide_eq_true_eq] at hB
      rw [if_pos (by simp only [Bool.and_eq_true, decide_eq_true_eq]; exact ⟨⟨hA, hB.1.2⟩, hB.2⟩), if_pos (by simp only [Bool.and_eq_true, decide_eq_true_eq]; exact hB)]
      rw [ih fun l hl => h l (by simp [hl])]
    · rw [if_neg hB] at h ⊢
      have hA : ¬ (A a && decide (0 < s) && decide (0 < lim (gp a))) = true := by
        intro hA
        simp only [Bool.and_eq_true, decide_eq_true_eq] at hA hB
        exact hB ⟨⟨hAB a hA.1.1, hA.1.2⟩, hA.2⟩
      rw [if_neg hA]
      exact ih h
/-- one seat more -/
theorem grd_seat {ρ : List Nat} {s : Nat} {lim : Nat → Nat} {A : Nat → Bool} {l : Nat} (h : l ∈ grd gp ρ s lim A) : l ∈ grd gp ρ (s + 1) lim A := by
  induction ρ generalizing s lim with
  | nil => simp [grd] at h
  | cons a ρ ih =>
    unfold grd at h ⊢
    by_cases hB : (A a && decide (0 < s) && decide (0 < lim (gp a))) = true
    · rw [if_pos hB] at h
      simp only [Bool.and_eq_true, decide_eq_true_eq] at hB
      rw [if_pos (by simp only [Bool.and_eq_true, decide_eq_true_eq]; exact ⟨⟨hB.1.1, by omega⟩, hB.2⟩)]
      rcases List.mem_cons.mp h with e | h
      · subst e; simp
      · have := ih h
        rw [show s - 1 + 1 = s + 1 - 1 by omega] at this
        exact List.mem_cons_of_mem _ this
    · rw [if_neg hB] at h
      by_cases h0 : s = 0
      · subst h0; rw [grd_zero] at h; simp at h
      · have hB' : ¬ (A a && decide (0 < s + 1) && decide (0 < lim (gp a))) = true := by
          intro q
          simp only [Bool.and_eq_true, decide_eq_true_eq] at q hB
          exact hB ⟨⟨q.1.1, by omega⟩, q.2⟩
        rw [if_neg hB']
        exact ih h
/-- sorted lists of the same members -/
theorem sorted_unique {n : Nat} : ∀ {xs ys : List Nat}, xs.Pairwise (· ≤ ·) → ys.Pairwise (· ≤ ·) → xs.Perm ys → xs = ys
  | [], ys, _, _, h => (List.nil_perm.mp h).symm ▸ rfl
  | x :: xs, [], _, _, h => by simp at h
  | x :: xs, y :: ys, h1, h2, h => by
    have e : x = y := by
      rw [List.pairwise_cons] at h1 h2
      have a1 : x ∈ y :: ys := h.mem_iff.mp (by simp)
      have a2 : y ∈ x :: xs := h.mem_iff.mpr (by simp)
      rcases List.mem_cons.mp a1 with e | m1
      · exact e
      · rcases List.mem_cons.mp a2 with e | m2
        · exact e.symm
        · have := h1.1 y m2
          have := h2.1 x m1
          omega
    subst e
    rw [sorted_unique (n := n) h1.of_cons h2.of_cons ((List.perm_cons x).mp h)]
end M90
set_option maxRecDepth 100000
set_option maxHeartbeats 4000000
/-! The facts of the program's text, printed by genfx.py. -/
namespace K92
open PySem PySem.Spec PyProof.Rows L2 RZ C8 DL LamX
variable [TabC]
def topS (i : Nat) : Stmt := PySem.Challenge.pw_thingsclear_k92_whole_nothing_left_and_n.main.body.getD i (.Pass ⟨0, 0, 0, 0⟩)
abbrev FnP (K : PySem.W.Frag) (x : Str) (st : Stmt) (f : Addr) (fd : FuncData) : Prop := FunD K x x (defArgs st) (defBody st) (defScope st) [] [] f fd
abbrev FnQ (K : PySem.W.Frag) (C m : String) (st : Stmt) (f : Addr) (fd : FuncData) : Prop := FunD K m (C ++ "." ++ m : String) (defArgs st) (defBody st) (defScope st) [] [] f fd
abbrev FnM (K : PySem.W.Frag) (C : String) (st : Stmt) (f : Addr) (fd : FuncData) : Prop := FunD K "__init__" (C ++ ".__init__" : String) (defArgs st) (defBody st) (defScope st) [] [] f fd
abbrev s_is_whole : Stmt := topS 13
abbrev s_is_below : Stmt := topS 16
abbrev s_is_ranking : Stmt := topS 17
abbrev s_are_rankings : Stmt := topS 18
abbrev s_check_rankings : Stmt := topS 19
abbrev s_check_sides : Stmt := topS 21
abbrev s_is_above : Stmt := topS 22
abbrev s_holders_of : Stmt := topS 23
abbrev s_offered : Stmt := topS 24
abbrev s_lefts_best : Stmt := topS 25
abbrev s_rights_best : Stmt := topS 26
abbrev s_best_for_lefts : Stmt := topS 27
abbrev s_best_for_rights : Stmt := topS 28
abbrev s_are_wishes : Stmt := topS 31
abbrev s_up_to : Stmt := topS 32
abbrev s_way_to : Stmt := topS 33
abbrev s_cycles_of : Stmt := topS 34
abbrev s_are_owned : Stmt := topS 36
abbrev s_check_homes : Stmt := topS 38
abbrev s_keeper_of : Stmt := topS 39
abbrev s_turn_of : Stmt := topS 40
abbrev s_turns_of : Stmt := topS 41
abbrev s_housed : Stmt := topS 42
abbrev s_turns : Stmt := topS 43
abbrev s_is_outcome : Stmt := topS 44
abbrev s_check_outcome : Stmt := topS 45
abbrev s_better_houses : Stmt := topS 46
abbrev s_improving : Stmt := topS 47
abbrev s_is_improving : Stmt := topS 48
abbrev s_check_right : Stmt := topS 50
abbrev s_exchanged : Stmt := topS 52
abbrev s_check_both : Stmt := topS 53
abbrev s_lie_for : Stmt := topS 54
abbrev s_is_lie_for : Stmt := topS 55
abbrev s__law_cell : Stmt := topS 57
abbrev s__law_box : Stmt := topS 58
abbrev s__law_take : Stmt := topS 59
abbrev s__law_row : Stmt := topS 60
abbrev s__law_same : Stmt := topS 61
abbrev s__law_mixed : Stmt := topS 62
abbrev s__law_rankings : Stmt := topS 63
abbrev s__law_prefers : Stmt := topS 64
abbrev s__law_blocks : Stmt := topS 65
abbrev s__law_all_stable : Stmt := topS 66
abbrev s__law_wanted : Stmt := topS 67
abbrev s__law_better : Stmt := topS 68
abbrev s__law_all_homes : Stmt := topS 69
abbrev s__law_improves : Stmt := topS 70
abbrev s__law_is_chain : Stmt := topS 71
abbrev s__law_homes_right : Stmt := topS 72
abbrev s__law_all_rankings : Stmt := topS 73
abbrev s__law_lies_right : Stmt := topS 74
abbrev s_law : Stmt := topS 75
abbrev si_Sides : Stmt := inClass (topS 20) 0
abbrev si_Homes : Stmt := inClass (topS 37) 0
abbrev sm_Homes_wanted : Stmt := inClass (topS 37) 2
structure Fx (K : PySem.W.Frag) (mg : Str → Option Value) (base : Heap) where
  f_turn_of : Addr
  fd_turn_of : FuncData
  F_turn_of : FnP K "turn_of" s_turn_of f_turn_of fd_turn_of
  g_turn_of : mg "turn_of" = some (.ref f_turn_of)
  cT : Addr
  pT : Addr
  tc : fd_turn_of.code = .ref cT
  TB : TabB base mg cT pT
  tb : TabC.tb = some pT
  tq : (("turn_of" : Str) ++ ".<locals>.") ++ "<lambda>" = TabC.q
  f_is_whole : Addr
  fd_is_whole : FuncData
  F_is_whole : FnP K "is_whole" s_is_whole f_is_whole fd_is_whole
  g_is_whole : mg "is_whole" = some (.ref f_is_whole)
  f_is_below : Addr
  fd_is_below : FuncData
  F_is_below : FnP K "is_below" s_is_below f_is_below fd_is_below
  g_is_below : mg "is_below" = some (.ref f_is_below)
  f_is_ranking : Addr
  fd_is_ranking : FuncData
  F_is_ranking : FnP K "is_ranking" s_is_ranking f_is_ranking fd_is_ranking
  g_is_ranking : mg "is_ranking" = some (.ref f_is_ranking)
  f_are_rankings : Addr
  fd_are_rankings : FuncData
  F_are_rankings : FnP K "are_rankings" s_are_rankings f_are_rankings fd_are_rankings
  g_are_rankings : mg "are_rankings" = some (.ref f_are_rankings)
  f_check_rankings : Addr
  fd_check_rankings : FuncData
  F_check_rankings : FnP K "check_rankings" s_check_rankings f_check_rankings fd_check_rankings
  g_check_rankings : mg "check_rankings" = some (.ref f_check_rankings)
  f_check_sides : Addr
  fd_check_sides : FuncData
  F_check_sides : FnP K "check_sides" s_check_sides f_check_sides fd_check_sides
  g_check_sides : mg "check_sides" = some (.ref f_check_sides)
  f_is_above : Addr
  fd_is_above : FuncData
  F_is_above : FnP K "is_above" s_is_above f_is_above fd_is_above
  g_is_above : mg "is_above" = some (.ref f_is_above)
  f_holders_of : Addr
  fd_holders_of : FuncData
  F_holders_of : FnP K "holders_of" s_holders_of f_holders_of fd_holders_of
  g_holders_of : mg "holders_of" = some (.ref f_holders_of)
  f_offered : Addr
  fd_offered : FuncData
  F_offered : FnP K "offered" s_offered f_offered fd_offered
  g_offered : mg "offered" = some (.ref f_offered)
  f_lefts_best : Addr
  fd_lefts_best : FuncData
  F_lefts_best : FnP K "lefts_best" s_lefts_best f_lefts_best fd_lefts_best
  g_lefts_best : mg "lefts_best" = some (.ref f_lefts_best)
  f_rights_best : Addr
  fd_rights_best : FuncData
  F_rights_best : FnP K "rights_best" s_rights_best f_rights_best fd_rights_best
  g_rights_best : mg "rights_best" = some (.ref f_rights_best)
  f_best_for_lefts : Addr
  fd_best_for_lefts : FuncData
  F_best_for_lefts : FnP K "best_for_lefts" s_best_for_lefts f_best_for_lefts fd_best_for_lefts
  g_best_for_lefts : mg "best_for_lefts" = some (.ref f_best_for_lefts)
  f_best_for_rights : Addr
  fd_best_for_rights : FuncData
  F_best_for_rights : FnP K "best_for_rights" s_best_for_rights f_best_for_rights fd_best_for_rights
  g_best_for_rights : mg "best_for_rights" = some (.ref f_best_for_rights)
  f_are_wishes : Addr
  fd_are_wishes : FuncData
  F_are_wishes : FnP K "are_wishes" s_are_wishes f_are_wishes fd_are_wishes
  g_are_wishes : mg "are_wishes" = some (.ref f_are_wishes)
  f_up_to : Addr
  fd_up_to : FuncData
  F_up_to : FnP K "up_to" s_up_to f_up_to fd_up_to
  g_up_to : mg "up_to" = some (.ref f_up_to)
  f_way_to : Addr
  fd_way_to : FuncData
  F_way_to : FnP K "way_to" s_way_to f_way_to fd_way_to
  g_way_to : mg "way_to" = some (.ref f_way_to)
  f_cycles_of : Addr
  fd_cycles_of : FuncData
  F_cycles_of : FnP K "cycles_of" s_cycles_of f_cycles_of fd_cycles_of
  g_cycles_of : mg "cycles_of" = some (.ref f_cycles_of)
  f_are_owned : Addr
  fd_are_owned : FuncData
  F_are_owned : FnP K "are_owned" s_are_owned f_are_owned fd_are_owned
  g_are_owned : mg "are_owned" = some (.ref f_are_owned)
  f_check_homes : Addr
  fd_check_homes : FuncData
  F_check_homes : FnP K "check_homes" s_check_homes f_check_homes fd_check_homes
  g_check_homes : mg "check_homes" = some (.ref f_check_homes)
  f_keeper_of : Addr
  fd_keeper_of : FuncData
  F_keeper_of : FnP K "keeper_of" s_keeper_of f_keeper_of fd_keeper_of
  g_keeper_of : mg "keeper_of" = some (.ref f_keeper_of)
  f_turns_of : Addr
  fd_turns_of : FuncData
  F_turns_of : FnP K "turns_of" s_turns_of f_turns_of fd_turns_of
  g_turns_of : mg "turns_of" = some (.ref f_turns_of)
  f_housed : Addr
  fd_housed : FuncData
  F_housed : FnP K "housed" s_housed f_housed fd_housed
  g_housed : mg "housed" = some (.ref f_housed)
  f_turns : Addr
  fd_turns : FuncData
  F_turns : FnP K "turns" s_turns f_turns fd_turns
  g_turns : mg "turns" = some (.ref f_turns)
  f_is_outcome : Addr
  fd_is_outcome : FuncData
  F_is_outcome : FnP K "is_outcome" s_is_outcome f_is_outcome fd_is_outcome
  g_is_outcome : mg "is_outcome" = some (.ref f_is_outcome)
  f_check_outcome : Addr
  fd_check_outcome : FuncData
  F_check_outcome : FnP K "check_outcome" s_check_outcome f_check_outcome fd_check_outcome
  g_check_outcome : mg "check_outcome" = some (.ref f_check_outcome)
  f_better_houses : Addr
  fd_better_houses : FuncData
  F_better_houses : FnP K "better_houses" s_better_houses f_better_houses fd_better_houses
  g_better_houses : mg "better_houses" = some (.ref f_better_houses)
  f_improving : Addr
  fd_improving : FuncData
  F_improving : FnP K "improving" s_improving f_improving fd_improving
  g_improving : mg "improving" = some (.ref f_improving)
  f_is_improving : Addr
  fd_is_improving : FuncData
  F_is_improving : FnP K "is_improving" s_is_improving f_is_improving fd_is_improving
  g_is_improving : mg "is_improving" = some (.ref f_is_improving)
  f_check_right : Addr
  fd_check_right : FuncData
  F_check_right : FnP K "check_right" s_check_right f_check_right fd_check_right
  g_check_right : mg "check_right" = some (.ref f_check_right)
  f_exchanged : Addr
  fd_exchanged : FuncData
  F_exchanged : FnP K "exchanged" s_exchanged f_exchanged fd_exchanged
  g_exchanged : mg "exchanged" = some (.ref f_exchanged)
  f_check_both : Addr
  fd_check_both : FuncData
  F_check_both : FnP K "check_both" s_check_both f_check_both fd_check_both
  g_check_both : mg "check_both" = some (.ref f_check_both)
  f_lie_for : Addr
  fd_lie_for : FuncData
  F_lie_for : FnP K "lie_for" s_lie_for f_lie_for fd_lie_for
  g_lie_for : mg "lie_for" = some (.ref f_lie_for)
  f_is_lie_for : Addr
  fd_is_lie_for : FuncData
  F_is_lie_for : FnP K "is_lie_for" s_is_lie_for f_is_lie_for fd_is_lie_for
  g_is_lie_for : mg "is_lie_for" = some (.ref f_is_lie_for)
  f__law_cell : Addr
  fd__law_cell : FuncData
  F__law_cell : FnP K "_law_cell" s__law_cell f__law_cell fd__law_cell
  g__law_cell : mg "_law_cell" = some (.ref f__law_cell)
  f__law_box : Addr
  fd__law_box : FuncData
  F__law_box : FnP K "_law_box" s__law_box f__law_box fd__law_box
  g__law_box : mg "_law_box" = some (.ref f__law_box)
  f__law_take : Addr
  fd__law_take : FuncData
  F__law_take : FnP K "_law_take" s__law_take f__law_take fd__law_take
  g__law_take : mg "_law_take" = some (.ref f__law_take)
  f__law_row : Addr
  fd__law_row : FuncData
  F__law_row : FnP K "_law_row" s__law_row f__law_row fd__law_row
  g__law_row : mg "_law_row" = some (.ref f__law_row)
  f__law_same : Addr
  fd__law_same : FuncData
  F__law_same : FnP K "_law_same" s__law_same f__law_same fd__law_same
  g__law_same : mg "_law_same" = some (.ref f__law_same)
  f__law_mixed : Addr
  fd__law_mixed : FuncData
  F__law_mixed : FnP K "_law_mixed" s__law_mixed f__law_mixed fd__law_mixed
  g__law_mixed : mg "_law_mixed" = some (.ref f__law_mixed)
  f__law_rankings : Addr
  fd__law_rankings : FuncData
  F__law_rankings : FnP K "_law_rankings" s__law_rankings f__law_rankings fd__law_rankings
  g__law_rankings : mg "_law_rankings" = some (.ref f__law_rankings)
  f__law_prefers : Addr
  fd__law_prefers : FuncData
  F__law_prefers : FnP K "_law_prefers" s__law_prefers f__law_prefers fd__law_prefers
  g__law_prefers : mg "_law_prefers" = some (.ref f__law_prefers)
  f__law_blocks : Addr
  fd__law_blocks : FuncData
  F__law_blocks : FnP K "_law_blocks" s__law_blocks f__law_blocks fd__law_blocks
  g__law_blocks : mg "_law_blocks" = some (.ref f__law_blocks)
  f__law_all_stable : Addr
  fd__law_all_stable : FuncData
  F__law_all_stable : FnP K "_law_all_stable" s__law_all_stable f__law_all_stable fd__law_all_stable
  g__law_all_stable : mg "_law_all_stable" = some (.ref f__law_all_stable)
  f__law_wanted : Addr
  fd__law_wanted : FuncData
  F__law_wanted : FnP K "_law_wanted" s__law_wanted f__law_wanted fd__law_wanted
  g__law_wanted : mg "_law_wanted" = some (.ref f__law_wanted)
  f__law_better : Addr
  fd__law_better : FuncData
  F__law_better : FnP K "_law_better" s__law_better f__law_better fd__law_better
  g__law_better : mg "_law_better" = some (.ref f__law_better)
  f__law_all_homes : Addr
  fd__law_all_homes : FuncData
  F__law_all_homes : FnP K "_law_all_homes" s__law_all_homes f__law_all_homes fd__law_all_homes
  g__law_all_homes : mg "_law_all_homes" = some (.ref f__law_all_homes)
  f__law_improves : Addr
  fd__law_improves : FuncData
  F__law_improves : FnP K "_law_improves" s__law_improves f__law_improves fd__law_improves
  g__law_improves : mg "_law_improves" = some (.ref f__law_improves)
  f__law_is_chain : Addr
  fd__law_is_chain : FuncData
  F__law_is_chain : FnP K "_law_is_chain" s__law_is_chain f__law_is_chain fd__law_is_chain
  g__law_is_chain : mg "_law_is_chain" = some (.ref f__law_is_chain)
  f__law_homes_right : Addr
  fd__law_homes_right : FuncData
  F__law_homes_right : FnP K "_law_homes_right" s__law_homes_right f__law_homes_right fd__law_homes_right
  g__law_homes_right : mg "_law_homes_right" = some (.ref f__law_homes_right)
  f__law_all_rankings : Addr
  fd__law_all_rankings : FuncData
  F__law_all_rankings : FnP K "_law_all_rankings" s__law_all_rankings f__law_all_rankings fd__law_all_rankings
  g__law_all_rankings : mg "_law_all_rankings" = some (.ref f__law_all_rankings)
  f__law_lies_right : Addr
  fd__law_lies_right : FuncData
  F__law_lies_right : FnP K "_law_lies_right" s__law_lies_right f__law_lies_right fd__law_lies_right
  g__law_lies_right : mg "_law_lies_right" = some (.ref f__law_lies_right)
  f_law : Addr
  fd_law : FuncData
  F_law : FnP K "law" s_law f_law fd_law
  g_law : mg "law" = some (.ref f_law)
  C_Sides : Addr
  fi_Sides : Addr
  fdi_Sides : FuncData
  Fi_Sides : FnM K "Sides" si_Sides fi_Sides fdi_Sides
  g_Sides : mg "Sides" = some (.ref C_Sides)
  M_Sides : Mk K C_Sides fi_Sides
  cl_Sides : Cls K C_Sides
  ins_Sides : InsC K C_Sides
  na_Sides_lefts : NoAttr K C_Sides "lefts"
  na_Sides_rights : NoAttr K C_Sides "rights"
  C_Homes : Addr
  fi_Homes : Addr
  fdi_Homes : FuncData
  Fi_Homes : FnM K "Homes" si_Homes fi_Homes fdi_Homes
  g_Homes : mg "Homes" = some (.ref C_Homes)
  M_Homes : Mk K C_Homes fi_Homes
  cl_Homes : Cls K C_Homes
  ins_Homes : InsC K C_Homes
  na_Homes_rankings : NoAttr K C_Homes "rankings"
  na_Homes_houses : NoAttr K C_Homes "houses"
  na_Homes_owned : NoAttr K C_Homes "owned"
  na_Homes_order : NoAttr K C_Homes "order"
  fm_Homes_wanted : Addr
  fdm_Homes_wanted : FuncData
  Fm_Homes_wanted : FnQ K "Homes" "wanted" sm_Homes_wanted fm_Homes_wanted fdm_Homes_wanted
  me_Homes_wanted : Meth K C_Homes "wanted" fm_Homes_wanted
  b_len : mg "len" = none
  b_int : mg "int" = none
  b_tuple : mg "tuple" = none
  b_list : mg "list" = none
  b_bool : mg "bool" = none
  b_str : mg "str" = none
  b_dict : mg "dict" = none
  b_set : mg "set" = none
  b_range : mg "range" = none
  b_enumerate : mg "enumerate" = none
  b_zip : mg "zip" = none
  b_max : mg "max" = none
  b_min : mg "min" = none
  b_sum : mg "sum" = none
  b_sorted : mg "sorted" = none
  b_all : mg "all" = none
  b_isinstance : mg "isinstance" = none
  b_abs : mg "abs" = none
  i_MOST_MEMBERS : ∃ t, mg "MOST_MEMBERS" = some (.int 20 t)
  i_MOST_OWNERS : ∃ t, mg "MOST_OWNERS" = some (.int 24 t)
section
variable {K : PySem.W.Frag} {mg : Str → Option Value} {base : Heap}
abbrev N_is_whole : List Str := ["value"]
abbrev P_is_whole : List Str := ["value"]
theorem sc_is_whole : FnScope N_is_whole P_is_whole (defScope s_is_whole) := ⟨rfl, rfl, rfl, by decide +kernel, rfl, by decide +kernel, by decide +kernel⟩
theorem b_is_whole (g : Fx K mg base) : Binds K g.fd_is_whole P_is_whole [] := g.F_is_whole.bindsN fun _ _ _ _ _ _ us hl => match us, hl with | [_], _ => rfl
abbrev N_is_below : List Str := ["value", "many"]
abbrev P_is_below : List Str := ["value", "many"]
theorem sc_is_below : FnScope N_is_below P_is_below (defScope s_is_below) := ⟨rfl, rfl, rfl, by decide +kernel, rfl, by decide +kernel, by decide +kernel⟩
theorem b_is_below (g : Fx K mg base) : Binds K g.fd_is_below P_is_below [] := g.F_is_below.bindsN fun _ _ _ _ _ _ us hl => match us, hl with | [_, _], _ => rfl
abbrev N_is_ranking : List Str := ["value", "many", "member"]
abbrev P_is_ranking : List Str := ["value", "many"]
theorem sc_is_ranking : FnScope N_is_ranking P_is_ranking (defScope s_is_ranking) := ⟨rfl, rfl, rfl, by decide +kernel, rfl, by decide +kernel, by decide +kernel⟩
theorem b_is_ranking (g : Fx K mg base) : Binds K g.fd_is_ranking P_is_ranking [] := g.F_is_ranking.bindsN fun _ _ _ _ _ _ us hl => match us, hl with | [_, _], _ => rfl
abbrev N_are_rankings : List Str := ["value", "many", "ranking"]
abbrev P_are_rankings : List Str := ["value", "many"]
theorem sc_are_rankings : FnScope N_are_rankings P_are_rankings (defScope s_are_rankings) := ⟨rfl, rfl, rfl, by decide +kernel, rfl, by decide +kernel, by decide +kernel⟩
theorem b_are_rankings (g : Fx K mg base) : Binds K g.fd_are_rankings P_are_rankings [] := g.F_are_rankings.bindsN fun _ _ _ _ _ _ us hl => match us, hl with | [_, _], _ => rfl
abbrev N_check_rankings : List Str := ["lefts", "rights", "most", "ranking", "right"]
abbrev P_check_rankings : List Str := ["lefts", "rights"]
theorem sc_check_rankings : FnScope N_check_rankings P_check_rankings (defScope s_check_rankings) := ⟨rfl, rfl, rfl, by decide +kernel, rfl, by decide +kernel, by decide +kernel⟩
theorem b_check_rankings (g : Fx K mg base) : Binds K g.fd_check_rankings P_check_rankings [] := g.F_check_rankings.bindsN fun _ _ _ _ _ _ us hl => match us, hl with | [_, _], _ => rfl
abbrev N_check_sides : List Str := ["sides"]
abbrev P_check_sides : List Str := ["sides"]
theorem sc_check_sides : FnScope N_check_sides P_check_sides (defScope s_check_sides) := ⟨rfl, rfl, rfl, by decide +kernel, rfl, by decide +kernel, by decide +kernel⟩
theorem b_check_sides (g : Fx K mg base) : Binds K g.fd_check_sides P_check_sides [] := g.F_check_sides.bindsN fun _ _ _ _ _ _ us hl => match us, hl with | [_], _ => rfl
abbrev N_is_above : List Str := ["ranking", "new", "old"]
abbrev P_is_above : List Str := ["ranking", "new", "old"]
theorem sc_is_above : FnScope N_is_above P_is_above (defScope s_is_above) := ⟨rfl, rfl, rfl, by decide +kernel, rfl, by decide +kernel, by decide +kernel⟩
theorem b_is_above (g : Fx K mg base) : Binds K g.fd_is_above P_is_above [] := g.F_is_above.bindsN fun _ _ _ _ _ _ us hl => match us, hl with | [_, _, _], _ => rfl
abbrev N_holders_of : List Str := ["sides", "pairing", "found", "left", "right"]
abbrev P_holders_of : List Str := ["sides", "pairing"]
theorem sc_holders_of : FnScope N_holders_of P_holders_of (defScope s_holders_of) := ⟨rfl, rfl, rfl, by decide +kernel, rfl, by decide +kernel, by decide +kernel⟩
theorem b_holders_of (g : Fx K mg base) : Binds K g.fd_holders_of P_holders_of [] := g.F_holders_of.bindsN fun _ _ _ _ _ _ us hl => match us, hl with | [_, _], _ => rfl
abbrev N_offered : List Str := ["askers", "answerers", "held", "places", "left", "asker", "answerer", "before"]
abbrev P_offered : List Str := ["askers", "answerers"]
theorem sc_offered : FnScope N_offered P_offered (defScope s_offered) := ⟨rfl, rfl, rfl, by decide +kernel, rfl, by decide +kernel, by decide +kernel⟩
theorem b_offered (g : Fx K mg base) : Binds K g.fd_offered P_offered [] := g.F_offered.bindsN fun _ _ _ _ _ _ us hl => match us, hl with | [_, _], _ => rfl
abbrev N_lefts_best : List Str := ["sides", "found", "right", "left"]
abbrev P_lefts_best : List Str := ["sides"]
theorem sc_lefts_best : FnScope N_lefts_best P_lefts_best (defScope s_lefts_best) := ⟨rfl, rfl, rfl, by decide +kernel, rfl, by decide +kernel, by decide +kernel⟩
theorem b_lefts_best (g : Fx K mg base) : Binds K g.fd_lefts_best P_lefts_best [] := g.F_lefts_best.bindsN fun _ _ _ _ _ _ us hl => match us, hl with | [_], _ => rfl
abbrev N_rights_best : List Str := ["sides"]
abbrev P_rights_best : List Str := ["sides"]
theorem sc_rights_best : FnScope N_rights_best P_rights_best (defScope s_rights_best) := ⟨rfl, rfl, rfl, by decide +kernel, rfl, by decide +kernel, by decide +kernel⟩
theorem b_rights_best (g : Fx K mg base) : Binds K g.fd_rights_best P_rights_best [] := g.F_rights_best.bindsN fun _ _ _ _ _ _ us hl => match us, hl with | [_], _ => rfl
abbrev N_best_for_lefts : List Str := ["sides"]
abbrev P_best_for_lefts : List Str := ["sides"]
theorem sc_best_for_lefts : FnScope N_best_for_lefts P_best_for_lefts (defScope s_best_for_lefts) := ⟨rfl, rfl, rfl, by decide +kernel, rfl, by decide +kernel, by decide +kernel⟩
theorem b_best_for_lefts (g : Fx K mg base) : Binds K g.fd_best_for_lefts P_best_for_lefts [] := g.F_best_for_lefts.bindsN fun _ _ _ _ _ _ us hl => match us, hl with | [_], _ => rfl
abbrev N_best_for_rights : List Str := ["sides"]
abbrev P_best_for_rights : List Str := ["sides"]
theorem sc_best_for_rights : FnScope N_best_for_rights P_best_for_rights (defScope s_best_for_rights) := ⟨rfl, rfl, rfl, by decide +kernel, rfl, by decide +kernel, by decide +kernel⟩
theorem b_best_for_rights (g : Fx K mg base) : Binds K g.fd_best_for_rights P_best_for_rights [] := g.F_best_for_rights.bindsN fun _ _ _ _ _ _ us hl => match us, hl with | [_], _ => rfl
abbrev N_are_wishes : List Str := ["value", "many", "ranking"]
abbrev P_are_wishes : List Str := ["value", "many"]
theorem sc_are_wishes : FnScope N_are_wishes P_are_wishes (defScope s_are_wishes) := ⟨rfl, rfl, rfl, by decide +kernel, rfl, by decide +kernel, by decide +kernel⟩
theorem b_are_wishes (g : Fx K mg base) : Binds K g.fd_are_wishes P_are_wishes [] := g.F_are_wishes.bindsN fun _ _ _ _ _ _ us hl => match us, hl with | [_, _], _ => rfl
abbrev N_up_to : List Str := ["ranking", "own"]
abbrev P_up_to : List Str := ["ranking", "own"]
theorem sc_up_to : FnScope N_up_to P_up_to (defScope s_up_to) := ⟨rfl, rfl, rfl, by decide +kernel, rfl, by decide +kernel, by decide +kernel⟩
theorem b_up_to (g : Fx K mg base) : Binds K g.fd_up_to P_up_to [] := g.F_up_to.bindsN fun _ _ _ _ _ _ us hl => match us, hl with | [_, _], _ => rfl
abbrev N_way_to : List Str := ["follow", "start", "goal", "ways", "new", "reached", "one", "other"]
abbrev P_way_to : List Str := ["follow", "start", "goal"]
theorem sc_way_to : FnScope N_way_to P_way_to (defScope s_way_to) := ⟨rfl, rfl, rfl, by decide +kernel, rfl, by decide +kernel, by decide +kernel⟩
theorem b_way_to (g : Fx K mg base) : Binds K g.fd_way_to P_way_to [] := g.F_way_to.bindsN fun _ _ _ _ _ _ us hl => match us, hl with | [_, _, _], _ => rfl
abbrev N_cycles_of : List Str := ["follow", "found", "start", "way", "at"]
abbrev P_cycles_of : List Str := ["follow"]
theorem sc_cycles_of : FnScope N_cycles_of P_cycles_of (defScope s_cycles_of) := ⟨rfl, rfl, rfl, by decide +kernel, rfl, by decide +kernel, by decide +kernel⟩
theorem b_cycles_of (g : Fx K mg base) : Binds K g.fd_cycles_of P_cycles_of [] := g.F_cycles_of.bindsN fun _ _ _ _ _ _ us hl => match us, hl with | [_], _ => rfl
abbrev N_are_owned : List Str := ["value", "many", "houses", "house"]
abbrev P_are_owned : List Str := ["value", "many", "houses"]
theorem sc_are_owned : FnScope N_are_owned P_are_owned (defScope s_are_owned) := ⟨rfl, rfl, rfl, by decide +kernel, rfl, by decide +kernel, by decide +kernel⟩
theorem b_are_owned (g : Fx K mg base) : Binds K g.fd_are_owned P_are_owned [] := g.F_are_owned.bindsN fun _ _ _ _ _ _ us hl => match us, hl with | [_, _, _], _ => rfl
abbrev N_check_homes : List Str := ["homes"]
abbrev P_check_homes : List Str := ["homes"]
theorem sc_check_homes : FnScope N_check_homes P_check_homes (defScope s_check_homes) := ⟨rfl, rfl, rfl, by decide +kernel, rfl, by decide +kernel, by decide +kernel⟩
theorem b_check_homes (g : Fx K mg base) : Binds K g.fd_check_homes P_check_homes [] := g.F_check_homes.bindsN fun _ _ _ _ _ _ us hl => match us, hl with | [_], _ => rfl
abbrev N_keeper_of : List Str := ["homes", "left", "house", "owners", "person"]
abbrev P_keeper_of : List Str := ["homes", "left", "house"]
theorem sc_keeper_of : FnScope N_keeper_of P_keeper_of (defScope s_keeper_of) := ⟨rfl, rfl, rfl, by decide +kernel, rfl, by decide +kernel, by decide +kernel⟩
theorem b_keeper_of (g : Fx K mg base) : Binds K g.fd_keeper_of P_keeper_of [] := g.F_keeper_of.bindsN fun _ _ _ _ _ _ us hl => match us, hl with | [_, _, _], _ => rfl
abbrev N_turn_of : List Str := ["homes", "left", "free", "looks", "follow", "person", "best", "found", "ring", "house"]
abbrev P_turn_of : List Str := ["homes", "left", "free"]
theorem sc_turn_of : FnScope N_turn_of P_turn_of (defScope s_turn_of) := ⟨rfl, rfl, rfl, by decide +kernel, rfl, by decide +kernel, by decide +kernel⟩
theorem b_turn_of (g : Fx K mg base) : Binds K g.fd_turn_of P_turn_of [] := g.F_turn_of.bindsN fun _ _ _ _ _ _ us hl => match us, hl with | [_, _, _], _ => rfl
abbrev N_turns_of : List Str := ["homes", "left", "free", "found", "rows", "gone", "taken", "person", "house", "_"]
abbrev P_turns_of : List Str := ["homes"]
theorem sc_turns_of : FnScope N_turns_of P_turns_of (defScope s_turns_of) := ⟨rfl, rfl, rfl, by decide +kernel, rfl, by decide +kernel, by decide +kernel⟩
theorem b_turns_of (g : Fx K mg base) : Binds K g.fd_turns_of P_turns_of [] := g.F_turns_of.bindsN fun _ _ _ _ _ _ us hl => match us, hl with | [_], _ => rfl
abbrev N_housed : List Str := ["homes", "found", "rows", "person", "house"]
abbrev P_housed : List Str := ["homes"]
theorem sc_housed : FnScope N_housed P_housed (defScope s_housed) := ⟨rfl, rfl, rfl, by decide +kernel, rfl, by decide +kernel, by decide +kernel⟩
theorem b_housed (g : Fx K mg base) : Binds K g.fd_housed P_housed [] := g.F_housed.bindsN fun _ _ _ _ _ _ us hl => match us, hl with | [_], _ => rfl
abbrev N_turns : List Str := ["homes"]
abbrev P_turns : List Str := ["homes"]
theorem sc_turns : FnScope N_turns P_turns (defScope s_turns) := ⟨rfl, rfl, rfl, by decide +kernel, rfl, by decide +kernel, by decide +kernel⟩
theorem b_turns (g : Fx K mg base) : Binds K g.fd_turns P_turns [] := g.F_turns.bindsN fun _ _ _ _ _ _ us hl => match us, hl with | [_], _ => rfl
abbrev N_is_outcome : List Str := ["homes", "value", "person", "house"]
abbrev P_is_outcome : List Str := ["homes", "value"]
theorem sc_is_outcome : FnScope N_is_outcome P_is_outcome (defScope s_is_outcome) := ⟨rfl, rfl, rfl, by decide +kernel, rfl, by decide +kernel, by decide +kernel⟩
theorem b_is_outcome (g : Fx K mg base) : Binds K g.fd_is_outcome P_is_outcome [] := g.F_is_outcome.bindsN fun _ _ _ _ _ _ us hl => match us, hl with | [_, _], _ => rfl
abbrev N_check_outcome : List Str := ["homes", "outcome"]
abbrev P_check_outcome : List Str := ["homes", "outcome"]
theorem sc_check_outcome : FnScope N_check_outcome P_check_outcome (defScope s_check_outcome) := ⟨rfl, rfl, rfl, by decide +kernel, rfl, by decide +kernel, by decide +kernel⟩
theorem b_check_outcome (g : Fx K mg base) : Binds K g.fd_check_outcome P_check_outcome [] := g.F_check_outcome.bindsN fun _ _ _ _ _ _ us hl => match us, hl with | [_, _], _ => rfl
abbrev N_better_houses : List Str := ["homes", "outcome", "person", "wanted", "own"]
abbrev P_better_houses : List Str := ["homes", "outcome", "person"]
theorem sc_better_houses : FnScope N_better_houses P_better_houses (defScope s_better_houses) := ⟨rfl, rfl, rfl, by decide +kernel, rfl, by decide +kernel, by decide +kernel⟩
theorem b_better_houses (g : Fx K mg base) : Binds K g.fd_better_houses P_better_houses [] := g.F_better_houses.bindsN fun _ _ _ _ _ _ us hl => match us, hl with | [_, _, _], _ => rfl
abbrev N_improving : List Str := ["homes", "outcome", "people", "better", "person", "empty", "follow", "other", "way", "row", "house"]
abbrev P_improving : List Str := ["homes", "outcome"]
theorem sc_improving : FnScope N_improving P_improving (defScope s_improving) := ⟨rfl, rfl, rfl, by decide +kernel, rfl, by decide +kernel, by decide +kernel⟩
theorem b_improving (g : Fx K mg base) : Binds K g.fd_improving P_improving [] := g.F_improving.bindsN fun _ _ _ _ _ _ us hl => match us, hl with | [_, _], _ => rfl
abbrev N_is_improving : List Str := ["homes", "outcome", "value", "people", "last", "gets", "person", "house"]
abbrev P_is_improving : List Str := ["homes", "outcome", "value"]
theorem sc_is_improving : FnScope N_is_improving P_is_improving (defScope s_is_improving) := ⟨rfl, rfl, rfl, by decide +kernel, rfl, by decide +kernel, by decide +kernel⟩
theorem b_is_improving (g : Fx K mg base) : Binds K g.fd_is_improving P_is_improving [] := g.F_is_improving.bindsN fun _ _ _ _ _ _ us hl => match us, hl with | [_, _, _], _ => rfl
abbrev N_check_right : List Str := ["sides", "right"]
abbrev P_check_right : List Str := ["sides", "right"]
theorem sc_check_right : FnScope N_check_right P_check_right (defScope s_check_right) := ⟨rfl, rfl, rfl, by decide +kernel, rfl, by decide +kernel, by decide +kernel⟩
theorem b_check_right (g : Fx K mg base) : Binds K g.fd_check_right P_check_right [] := g.F_check_right.bindsN fun _ _ _ _ _ _ us hl => match us, hl with | [_, _], _ => rfl
abbrev N_exchanged : List Str := ["rows", "at", "row"]
abbrev P_exchanged : List Str := ["rows", "at", "row"]
theorem sc_exchanged : FnScope N_exchanged P_exchanged (defScope s_exchanged) := ⟨rfl, rfl, rfl, by decide +kernel, rfl, by decide +kernel, by decide +kernel⟩
theorem b_exchanged (g : Fx K mg base) : Binds K g.fd_exchanged P_exchanged [] := g.F_exchanged.bindsN fun _ _ _ _ _ _ us hl => match us, hl with | [_, _, _], _ => rfl
abbrev N_check_both : List Str := ["sides", "right"]
abbrev P_check_both : List Str := ["sides", "right"]
theorem sc_check_both : FnScope N_check_both P_check_both (defScope s_check_both) := ⟨rfl, rfl, rfl, by decide +kernel, rfl, by decide +kernel, by decide +kernel⟩
theorem b_check_both (g : Fx K mg base) : Binds K g.fd_check_both P_check_both [] := g.F_check_both.bindsN fun _ _ _ _ _ _ us hl => match us, hl with | [_, _], _ => rfl
abbrev N_lie_for : List Str := ["sides", "right", "worst", "best", "ranking", "pairing"]
abbrev P_lie_for : List Str := ["sides", "right"]
theorem sc_lie_for : FnScope N_lie_for P_lie_for (defScope s_lie_for) := ⟨rfl, rfl, rfl, by decide +kernel, rfl, by decide +kernel, by decide +kernel⟩
theorem b_lie_for (g : Fx K mg base) : Binds K g.fd_lie_for P_lie_for [] := g.F_lie_for.bindsN fun _ _ _ _ _ _ us hl => match us, hl with | [_, _], _ => rfl
abbrev N_is_lie_for : List Str := ["sides", "right", "value", "other", "own", "before", "after", "some"]
abbrev P_is_lie_for : List Str := ["sides", "right", "value"]
theorem sc_is_lie_for : FnScope N_is_lie_for P_is_lie_for (defScope s_is_lie_for) := ⟨rfl, rfl, rfl, by decide +kernel, rfl, by decide +kernel, by decide +kernel⟩
theorem b_is_lie_for (g : Fx K mg base) : Binds K g.fd_is_lie_for P_is_lie_for [] := g.F_is_lie_for.bindsN fun _ _ _ _ _ _ us hl => match us, hl with | [_, _, _], _ => rfl
abbrev N__law_cell : List Str := ["script", "k"]
abbrev P__law_cell : List Str := ["script", "k"]
theorem sc__law_cell : FnScope N__law_cell P__law_cell (defScope s__law_cell) := ⟨rfl, rfl, rfl, by decide +kernel, rfl, by decide +kernel, by decide +kernel⟩
theorem b__law_cell (g : Fx K mg base) : Binds K g.fd__law_cell P__law_cell [] := g.F__law_cell.bindsN fun _ _ _ _ _ _ us hl => match us, hl with | [_, _], _ => rfl
abbrev N__law_box : List Str := ["great"]
abbrev P__law_box : List Str := ["great"]
theorem sc__law_box : FnScope N__law_box P__law_box (defScope s__law_box) := ⟨rfl, rfl, rfl, by decide +kernel, rfl, by decide +kernel, by decide +kernel⟩
theorem b__law_box (g : Fx K mg base) : Binds K g.fd__law_box P__law_box [] := g.F__law_box.bindsN fun _ _ _ _ _ _ us hl => match us, hl with | [_], _ => rfl
abbrev N__law_take : List Str := ["box", "many", "digit", "mixed"]
abbrev P__law_take : List Str := ["box", "many"]
theorem sc__law_take : FnScope N__law_take P__law_take (defScope s__law_take) := ⟨rfl, rfl, rfl, by decide +kernel, rfl, by decide +kernel, by decide +kernel⟩
theorem b__law_take (g : Fx K mg base) : Binds K g.fd__law_take P__law_take [] := g.F__law_take.bindsN fun _ _ _ _ _ _ us hl => match us, hl with | [_, _], _ => rfl
abbrev N__law_row : List Str := ["told", "many", "one"]
abbrev P__law_row : List Str := ["told", "many"]
theorem sc__law_row : FnScope N__law_row P__law_row (defScope s__law_row) := ⟨rfl, rfl, rfl, by decide +kernel, rfl, by decide +kernel, by decide +kernel⟩
theorem b__law_row (g : Fx K mg base) : Binds K g.fd__law_row P__law_row [] := g.F__law_row.bindsN fun _ _ _ _ _ _ us hl => match us, hl with | [_, _], _ => rfl
abbrev N__law_same : List Str := ["told", "due", "k"]
abbrev P__law_same : List Str := ["told", "due"]
theorem sc__law_same : FnScope N__law_same P__law_same (defScope s__law_same) := ⟨rfl, rfl, rfl, by decide +kernel, rfl, by decide +kernel, by decide +kernel⟩
theorem b__law_same (g : Fx K mg base) : Binds K g.fd__law_same P__law_same [] := g.F__law_same.bindsN fun _ _ _ _ _ _ us hl => match us, hl with | [_, _], _ => rfl
abbrev N__law_mixed : List Str := ["box", "many", "left", "found"]
abbrev P__law_mixed : List Str := ["box", "many"]
theorem sc__law_mixed : FnScope N__law_mixed P__law_mixed (defScope s__law_mixed) := ⟨rfl, rfl, rfl, by decide +kernel, rfl, by decide +kernel, by decide +kernel⟩
theorem b__law_mixed (g : Fx K mg base) : Binds K g.fd__law_mixed P__law_mixed [] := g.F__law_mixed.bindsN fun _ _ _ _ _ _ us hl => match us, hl with | [_, _], _ => rfl
abbrev N__law_rankings : List Str := ["box", "many", "others", "full", "found", "member", "row"]
abbrev P__law_rankings : List Str := ["box", "many", "others", "full"]
theorem sc__law_rankings : FnScope N__law_rankings P__law_rankings (defScope s__law_rankings) := ⟨rfl, rfl, rfl, by decide +kernel, rfl, by decide +kernel, by decide +kernel⟩
theorem b__law_rankings (g : Fx K mg base) : Binds K g.fd__law_rankings P__law_rankings [] := g.F__law_rankings.bindsN fun _ _ _ _ _ _ us hl => match us, hl with | [_, _, _, _], _ => rfl
abbrev N__law_prefers : List Str := ["ranking", "new", "old"]
abbrev P__law_prefers : List Str := ["ranking", "new", "old"]
theorem sc__law_prefers : FnScope N__law_prefers P__law_prefers (defScope s__law_prefers) := ⟨rfl, rfl, rfl, by decide +kernel, rfl, by decide +kernel, by decide +kernel⟩
theorem b__law_prefers (g : Fx K mg base) : Binds K g.fd__law_prefers P__law_prefers [] := g.F__law_prefers.bindsN fun _ _ _ _ _ _ us hl => match us, hl with | [_, _, _], _ => rfl
abbrev N__law_blocks : List Str := ["lefts", "rights", "pairing", "left", "right", "own", "other"]
abbrev P__law_blocks : List Str := ["lefts", "rights", "pairing"]
theorem sc__law_blocks : FnScope N__law_blocks P__law_blocks (defScope s__law_blocks) := ⟨rfl, rfl, rfl, by decide +kernel, rfl, by decide +kernel, by decide +kernel⟩
theorem b__law_blocks (g : Fx K mg base) : Binds K g.fd__law_blocks P__law_blocks [] := g.F__law_blocks.bindsN fun _ _ _ _ _ _ us hl => match us, hl with | [_, _, _], _ => rfl
abbrev N__law_all_stable : List Str := ["lefts", "rights", "rows", "left", "longer", "row", "right"]
abbrev P__law_all_stable : List Str := ["lefts", "rights"]
theorem sc__law_all_stable : FnScope N__law_all_stable P__law_all_stable (defScope s__law_all_stable) := ⟨rfl, rfl, rfl, by decide +kernel, rfl, by decide +kernel, by decide +kernel⟩
theorem b__law_all_stable (g : Fx K mg base) : Binds K g.fd__law_all_stable P__law_all_stable [] := g.F__law_all_stable.bindsN fun _ _ _ _ _ _ us hl => match us, hl with | [_, _], _ => rfl
abbrev N__law_wanted : List Str := ["ranking", "own"]
abbrev P__law_wanted : List Str := ["ranking", "own"]
theorem sc__law_wanted : FnScope N__law_wanted P__law_wanted (defScope s__law_wanted) := ⟨rfl, rfl, rfl, by decide +kernel, rfl, by decide +kernel, by decide +kernel⟩
theorem b__law_wanted (g : Fx K mg base) : Binds K g.fd__law_wanted P__law_wanted [] := g.F__law_wanted.bindsN fun _ _ _ _ _ _ us hl => match us, hl with | [_, _], _ => rfl
abbrev N__law_better : List Str := ["wanted", "new", "old"]
abbrev P__law_better : List Str := ["wanted", "new", "old"]
theorem sc__law_better : FnScope N__law_better P__law_better (defScope s__law_better) := ⟨rfl, rfl, rfl, by decide +kernel, rfl, by decide +kernel, by decide +kernel⟩
theorem b__law_better (g : Fx K mg base) : Binds K g.fd__law_better P__law_better [] := g.F__law_better.bindsN fun _ _ _ _ _ _ us hl => match us, hl with | [_, _, _], _ => rfl
abbrev N__law_all_homes : List Str := ["wanted", "rows", "houses", "longer", "row", "house"]
abbrev P__law_all_homes : List Str := ["wanted"]
theorem sc__law_all_homes : FnScope N__law_all_homes P__law_all_homes (defScope s__law_all_homes) := ⟨rfl, rfl, rfl, by decide +kernel, rfl, by decide +kernel, by decide +kernel⟩
theorem b__law_all_homes (g : Fx K mg base) : Binds K g.fd__law_all_homes P__law_all_homes [] := g.F__law_all_homes.bindsN fun _ _ _ _ _ _ us hl => match us, hl with | [_], _ => rfl
abbrev N__law_improves : List Str := ["wanted", "one", "other", "k"]
abbrev P__law_improves : List Str := ["wanted", "one", "other"]
theorem sc__law_improves : FnScope N__law_improves P__law_improves (defScope s__law_improves) := ⟨rfl, rfl, rfl, by decide +kernel, rfl, by decide +kernel, by decide +kernel⟩
theorem b__law_improves (g : Fx K mg base) : Binds K g.fd__law_improves P__law_improves [] := g.F__law_improves.bindsN fun _ _ _ _ _ _ us hl => match us, hl with | [_, _, _], _ => rfl
abbrev N__law_is_chain : List Str := ["wanted", "outcome", "value", "gets", "person", "k"]
abbrev P__law_is_chain : List Str := ["wanted", "outcome", "value"]
theorem sc__law_is_chain : FnScope N__law_is_chain P__law_is_chain (defScope s__law_is_chain) := ⟨rfl, rfl, rfl, by decide +kernel, rfl, by decide +kernel, by decide +kernel⟩
theorem b__law_is_chain (g : Fx K mg base) : Binds K g.fd__law_is_chain P__law_is_chain [] := g.F__law_is_chain.bindsN fun _ _ _ _ _ _ us hl => match us, hl with | [_, _, _], _ => rfl
abbrev N__law_homes_right : List Str := ["box", "named", "many", "houses", "mixed", "owned", "wishes", "order", "homes", "wanted", "told", "rows", "turn", "outcome", "due", "value", "people", "last", "judged", "left", "person", "house", "k", "row"]
abbrev P__law_homes_right : List Str := ["box", "named"]
theorem sc__law_homes_right : FnScope N__law_homes_right P__law_homes_right (defScope s__law_homes_right) := ⟨rfl, rfl, rfl, by decide +kernel, rfl, by decide +kernel, by decide +kernel⟩
theorem b__law_homes_right (g : Fx K mg base) : Binds K g.fd__law_homes_right P__law_homes_right [] := g.F__law_homes_right.bindsN fun _ _ _ _ _ _ us hl => match us, hl with | [_, _], _ => rfl
abbrev N__law_all_rankings : List Str := ["many", "rows", "found", "turn", "longer", "row", "other"]
abbrev P__law_all_rankings : List Str := ["many"]
theorem sc__law_all_rankings : FnScope N__law_all_rankings P__law_all_rankings (defScope s__law_all_rankings) := ⟨rfl, rfl, rfl, by decide +kernel, rfl, by decide +kernel, by decide +kernel⟩
theorem b__law_all_rankings (g : Fx K mg base) : Binds K g.fd__law_all_rankings P__law_all_rankings [] := g.F__law_all_rankings.bindsN fun _ _ _ _ _ _ us hl => match us, hl with | [_], _ => rfl
abbrev N__law_lies_right : List Str := ["box", "named", "many", "others", "lefts", "rights", "sides", "right", "stable", "own", "first", "mine", "best", "lie", "helped", "ranking", "other", "got", "helps", "judged", "left", "row"]
abbrev P__law_lies_right : List Str := ["box", "named"]
theorem sc__law_lies_right : FnScope N__law_lies_right P__law_lies_right (defScope s__law_lies_right) := ⟨rfl, rfl, rfl, by decide +kernel, rfl, by decide +kernel, by decide +kernel⟩
theorem b__law_lies_right (g : Fx K mg base) : Binds K g.fd__law_lies_right P__law_lies_right [] := g.F__law_lies_right.bindsN fun _ _ _ _ _ _ us hl => match us, hl with | [_, _], _ => rfl
abbrev N_law : List Str := ["script", "k", "box", "named", "turn"]
abbrev P_law : List Str := ["script"]
theorem sc_law : FnScope N_law P_law (defScope s_law) := ⟨rfl, rfl, rfl, by decide +kernel, rfl, by decide +kernel, by decide +kernel⟩
theorem b_law (g : Fx K mg base) : Binds K g.fd_law P_law [] := g.F_law.bindsN fun _ _ _ _ _ _ us hl => match us, hl with | [_], _ => rfl
abbrev Ni_Sides : List Str := ["self", "lefts", "rights"]
abbrev Pi_Sides : List Str := ["self", "lefts", "rights"]
theorem sci_Sides : FnScope Ni_Sides Pi_Sides (defScope si_Sides) := ⟨rfl, rfl, rfl, by decide +kernel, rfl, by decide +kernel, by decide +kernel⟩
theorem bI_Sides (g : Fx K mg base) : Binds K g.fdi_Sides Pi_Sides [] := g.Fi_Sides.bindsN fun _ _ _ _ _ _ us hl => match us, hl with | [_, _, _], _ => rfl
abbrev Ni_Homes : List Str := ["self", "rankings", "houses", "owned", "order"]
abbrev Pi_Homes : List Str := ["self", "rankings", "houses", "owned", "order"]
theorem sci_Homes : FnScope Ni_Homes Pi_Homes (defScope si_Homes) := ⟨rfl, rfl, rfl, by decide +kernel, rfl, by decide +kernel, by decide +kernel⟩
theorem bI_Homes (g : Fx K mg base) : Binds K g.fdi_Homes Pi_Homes [] := g.Fi_Homes.bindsN fun _ _ _ _ _ _ us hl => match us, hl with | [_, _, _, _, _], _ => rfl
abbrev Nm_Homes_wanted : List Str := ["self", "person", "own"]
abbrev Pm_Homes_wanted : List Str := ["self", "person"]
theorem scm_Homes_wanted : FnScope Nm_Homes_wanted Pm_Homes_wanted (defScope sm_Homes_wanted) := ⟨rfl, rfl, rfl, by decide +kernel, rfl, by decide +kernel, by decide +kernel⟩
theorem b_Homes_wanted (g : Fx K mg base) : Binds K g.fdm_Homes_wanted Pm_Homes_wanted [] := g.Fm_Homes_wanted.bindsN fun _ _ _ _ _ _ us hl => match us, hl with | [_, _], _ => rfl
theorem kbI_Homes_3_2_1_0 (g : Fx K mg base) : KBn K g.fdi_Homes Pi_Homes 1 ["order", "owned", "houses", "rankings"] (gK [3, 2, 1, 0]) (gK [3, 2, 1, 0]) := kb_of g.Fi_Homes 1 [3, 2, 1, 0] fun _ _ _ _ _ _ us ws l1 l2 => match us, l1, ws, l2 with | [_], _, [_, _, _, _], _ => rfl
theorem kb_improving_1_0 (g : Fx K mg base) : KBn K g.fd_improving P_improving 0 ["outcome", "homes"] (gK [1, 0]) (gK [1, 0]) := kb_of g.F_improving 0 [1, 0] fun _ _ _ _ _ _ us ws l1 l2 => match us, l1, ws, l2 with | [], _, [_, _], _ => rfl
theorem kb_is_improving_2_1_0 (g : Fx K mg base) : KBn K g.fd_is_improving P_is_improving 0 ["value", "outcome", "homes"] (gK [2, 1, 0]) (gK [2, 1, 0]) := kb_of g.F_is_improving 0 [2, 1, 0] fun _ _ _ _ _ _ us ws l1 l2 => match us, l1, ws, l2 with | [], _, [_, _, _], _ => rfl
theorem kb_lie_for_1_0 (g : Fx K mg base) : KBn K g.fd_lie_for P_lie_for 0 ["right", "sides"] (gK [1, 0]) (gK [1, 0]) := kb_of g.F_lie_for 0 [1, 0] fun _ _ _ _ _ _ us ws l1 l2 => match us, l1, ws, l2 with | [], _, [_, _], _ => rfl
end
end K92
set_option maxRecDepth 100000
set_option maxHeartbeats 1000000
namespace K92
open PySem PySem.Spec PyProof.Rows L2 RZ DL LamX
open C8 (call_isC pe_gc InsC)
open M90
variable [TabC]
def isW : Dat → Bool
  | .int _ => true
  | _ => false
def plain : Dat → Bool
  | .obj _ _ => false
  | .cell => false
  | .ty _ => false
  | .cls _ => false
  | .dtt _ => false
  | .rng _ _ => false
  | _ => true
def S_is_whole : List Dat → (Dat → Prop) → Prop := fun ds P => ∃ d, ds = [d] ∧ plain d = true ∧ P (.bl (isW d))
theorem len_is_whole (ds : List Dat) (Q : Dat → Prop) (h : S_is_whole ds Q) : ds.length = P_is_whole.length := by
  obtain ⟨d, rfl, _⟩ := h; rfl
section
variable {P : Program} {w : World} {K : PySem.W.Frag} {mg : Str → Option Value} {base : Heap}
theorem ok_is_whole (g : Fx K mg base) : FnOk P w K mg base L2.CX0 1 g.f_is_whole g.fd_is_whole P_is_whole (spF 0 S_is_whole) := by
  refine okD g.F_is_whole sc_is_whole len_is_whole (fun cdv A outer s H E hr => ?_)
  have nd := (sc_is_whole).nd
  refine ⟨_, SDs.cost (sds_cons (sd_ret (pd_and (pd_callB call_isi cd_isi (by rfl) g.b_isinstance boot_isinstance (phd_cons ((pd_var (pv 0))).toSh (phd_cons ((pd_ty (pe_bltn (by rfl) g.b_int boot_int rfl))).toSh phd_nil))) (pd_one (pd_not (pd_callB call_isi cd_isi (by rfl) g.b_isinstance boot_isinstance (phd_cons ((pd_var (pv 0))).toSh (phd_cons ((pd_ty (pe_bltn (by rfl) g.b_bool boot_bool rfl))).toSh phd_nil))))))) sds_nil) (by decide), fun ds Q h => ?_⟩
  obtain ⟨d, rfl, h1, h2⟩ := h
  cases d <;> simp [plain] at h1 <;> simpa [isW] using h2
end
def nD (n : Nat) : Dat := .int (n : Int)
def rk (r : List Nat) : Dat := .tup (r.map nD)
def rks (rs : List (List Nat)) : Dat := .tup (rs.map rk)
def oD : Option Nat → Dat
  | none => .non
  | some n => nD n
def outD (o : List (Option Nat)) : Dat := .tup (o.map oD)
@[simp] theorem plain_nD {n : Nat} : plain (nD n) = true := rfl
@[simp] theorem isW_nD {n : Nat} : isW (nD n) = true := rfl
@[simp] theorem tyN_nD {n : Nat} : tyN (nD n) = some "int" := rfl
@[simp] theorem tyN_rk {r : List Nat} : tyN (rk r) = some "tuple" := rfl
@[simp] theorem tyN_rks {r : List (List Nat)} : tyN (rks r) = some "tuple" := rfl
@[simp] theorem tyN_outD {r : List (Option Nat)} : tyN (outD r) = some "tuple" := rfl
@[simp] theorem isNon_nD {n : Nat} : isNon (nD n) = false := rfl
@[simp] theorem flat_nD {n : Nat} : flatD (nD n) = true := rfl
@[simp] theorem pl_nD {k n : Nat} : pl k (nD n) = true := by cases k <;> rfl
@[simp] theorem pl_int {k : Nat} {n : Int} : pl k (.int n) = true := by cases k <;> rfl
@[simp] theorem pl_bl {k : Nat} {n : Bool} : pl k (.bl n) = true := by cases k <;> rfl
@[simp] theorem pl_non {k : Nat} : pl k .non = true := by cases k <;> rfl
@[simp] theorem pl_oD {k : Nat} {o : Option Nat} : pl k (oD o) = true := by cases o <;> simp [oD]
@[simp] theorem flat_oD {o : Option Nat} : flatD (oD o) = true := by cases o <;> rfl
@[simp] theorem pl_lst {k : Nat} {xs : List Dat} : pl (k + 1) (.lst xs) = xs.all (pl k) := rfl
@[simp] theorem pl_tup {k : Nat} {xs : List Dat} : pl (k + 1) (.tup xs) = xs.all (pl k) := rfl
@[simp] theorem pl_lst20 {xs : List Dat} : pl 20 (.lst xs) = xs.all (pl 19) := rfl
@[simp] theorem pl_tup20 {xs : List Dat} : pl 20 (.tup xs) = xs.all (pl 19) := rfl
theorem all_pl_nD {k : Nat} {r : List Nat} : (r.map nD).all (pl k) = true := by simp
theorem all_flat_nD {r : List Nat} : (r.map nD).all flatD = true := by simp
@[simp] theorem eqD_nn {a b : Nat} : eqD (nD a) (nD b) = decide (a = b) := by
  unfold nD
  simp only [eqD]
  by_cases h : a = b
  · simp [h]
  · have : ¬ (a : Int) = (b : Int) := by omega
    simp [h, this]
@[simp] theorem eqD_ii {a b : Int} : eqD (.int a) (.int b) = decide (a = b) := by
  simp only [eqD]
  by_cases h : a = b
  · simp [h]
  · simp [h]
@[simp] theorem intsD_nD {r : List Nat} : intsD (r.map nD) = some (r.map fun (n : Nat) => (n : Int)) := by
  have : r.map nD = (r.map fun (n : Nat) => (n : Int)).map Dat.int := by simp [nD, Function.comp_def]
  rw [this, DL.ints_map]
theorem get_nD {r : List Nat} {i : Nat} : (r.map nD)[i]? = r[i]?.map nD := by simp
@[simp] theorem fLen_rk {r : List Nat} {P : Dat → Prop} : fLen [rk r] P = P (.int r.length) := by simp [rk]
@[simp] theorem fLen_rks {r : List (List Nat)} {P : Dat → Prop} : fLen [rks r] P = P (.int r.length) := by simp [rks]
@[simp] theorem fLen_outD {r : List (Option Nat)} {P : Dat → Prop} : fLen [outD r] P = P (.int r.length) := by simp [outD]
@[simp] theorem oC_in {g : Int → Int → Bool} {a : Int} {b : Nat} {P : Dat → Prop} : fC g (.int a) (nD b) P = P (.bl (g a b)) := rfl
@[simp] theorem oC_ni {g : Int → Int → Bool} {a : Nat} {b : Int} {P : Dat → Prop} : fC g (nD a) (.int b) P = P (.bl (g a b)) := rfl
@[simp] theorem oC_nn {g : Int → Int → Bool} {a b : Nat} {P : Dat → Prop} : fC g (nD a) (nD b) P = P (.bl (g a b)) := rfl
@[simp] theorem nD_int {a : Nat} {i : Int} : (nD a = .int i) = ((a : Int) = i) := by simp [nD]
@[simp] theorem int_nD {a : Nat} {i : Int} : (Dat.int i = nD a) = (i = (a : Int)) := by simp [nD]
@[simp] theorem nD_inj {a b : Nat} : (nD a = nD b) = (a = b) := by
  unfold nD
  apply propext
  rw [Dat.int.injEq]
  omega
def S_is_below : List Dat → (Dat → Prop) → Prop := fun ds P => ∃ i m : Int, ds = [.int i, .int m] ∧ P (.bl (decide (0 ≤ i) && decide (i < m)))
theorem len_is_below (ds : List Dat) (Q : Dat → Prop) (h : S_is_below ds Q) : ds.length = P_is_below.length := by
  obtain ⟨d, a, rfl, _⟩ := h; rfl
section
variable {P : Program} {w : World} {K : PySem.W.Frag} {mg : Str → Option Value} {base : Heap}
theorem ok_is_below (g : Fx K mg base) : FnOk P w K mg base L2.CX0 2 g.f_is_below g.fd_is_below P_is_below (spF 0 S_is_below) := by
  refine okD g.F_is_below sc_is_below len_is_below (fun cdv A outer s H E hr => ?_)
  have nd := (sc_is_below).nd
  refine ⟨_, SDs.cost (sds_cons (sd_ret (pd_and (pd_call (ok_is_whole g) (hr.mono (by decide)) (by rfl) g.g_is_whole g.F_is_whole.kp (b_is_whole g) (pad_cons (pd_var (pv 0)) pad_nil)) (pd_one (pd_chain op_le op_lt od_C od_C (pd_int).toSh ((pd_var (pv 0))).toSh ((pd_var (pv 1))).toSh)))) sds_nil) (by decide), fun ds Q h => ?_⟩
  obtain ⟨i, m, rfl, h2⟩ := h
  simp [S_is_whole, plain, isW]
  by_cases h0 : 0 ≤ i
  · exact .inr ⟨h0, by simpa [h0] using h2⟩
  · exact .inl ⟨by omega, by simpa [h0] using h2⟩
end
def RkOk (many : Nat) (r : List Nat) : Prop := r.Nodup ∧ (∀ x ∈ r, x < many) ∧ many ≤ 20
theorem RkOk.len {many : Nat} {r : List Nat} (h : RkOk many r) : r.length ≤ 20 := by
  have h1 : r.length ≤ (List.range many).length := List.Nodup.length_le_of_subset h.1 fun x hx => List.mem_range.mpr (h.2.1 x hx)
  rw [List.length_range] at h1
  have := h.2.2
  omega
def S_is_ranking : List Dat → (Dat → Prop) → Prop := fun ds P => ∃ (r : List Nat) (m : Nat), ds = [rk r, nD m] ∧ RkOk m r ∧ P (.bl true)
theorem len_is_ranking (ds : List Dat) (Q : Dat → Prop) (h : S_is_ranking ds Q) : ds.length = P_is_ranking.length := by
  obtain ⟨d, a, rfl, _⟩ := h; rfl
section
variable {P : Program} {w : World} {K : PySem.W.Frag} {mg : Str → Option Value} {base : Heap}
theorem ok_is_ranking (g : Fx K mg base) : FnOk P w K mg base L2.CX0 3 g.f_is_ranking g.fd_is_ranking P_is_ranking (spF 0 S_is_ranking) := by
  refine okD g.F_is_ranking sc_is_ranking len_is_ranking (fun cdv A outer s H E hr => ?_)
  have nd := (sc_is_ranking).nd
  refine ⟨_, SDs.cost (sds_cons (sd_if ((pwd_or (ptd_not (ptd_val (pd_callB call_isi cd_isi (by rfl) g.b_isinstance boot_isinstance (phd_cons ((pd_var (pv 0))).toSh (phd_cons ((pd_ty (pe_bltn (by rfl) g.b_tuple boot_tuple rfl))).toSh phd_nil))))) (pwd_or1 (ptd_not (ptd_val (pd_callB (cr_all rfl) cd_all (by rfl) g.b_all boot_all (phd_cons ((pd_lc 1024 rfl nd (pid_tup (pd_var (pv 0))) (blkOk_by (own := [("member", 2)]) (by kernel_rfl)) (fun _ _ _ _ _ => (pgd_name (i := 2) nd rfl (by first | exact .inl rfl | exact .inr rfl))) (fun _ _ _ _ _ => ptsd_nil) (fun _ _ _ _ _ => (pd_call (ok_is_below g) (hr.mono (by decide)) (by rfl) g.g_is_below g.F_is_below.kp (b_is_below g) (pad_cons (pd_var (pv 2)) (pad_cons (pd_var (pv 1)) pad_nil)))))).toSh phd_nil))))))).pt (sds_cons (sd_ret pd_bl) sds_nil) sds_nil) (sds_cons (sd_ret (pd_cmp (op_eqD (ru0 hr)) od_eq ((pd_lenSet (by rfl) g.b_len (by rfl) g.b_set (pd_var (pv 0)) rfl)).toSh ((pd_callB call_lenA cd_len (by rfl) g.b_len boot_len (phd_cons ((pd_var (pv 0))).toSh phd_nil))).toSh (nomark _))) sds_nil)) (by decide), fun ds Q h => ?_⟩
  obtain ⟨r, m, rfl, h1, h2⟩ := h
  simp
  refine ⟨_, rfl, _, rfl, lcp (fun _ => some (.bl true)) ?_ (fun d hd R hR => ?_) ?_⟩
  · have := h1.len; simp; omega
  · obtain ⟨n, hn, rfl⟩ := List.mem_map.mp hd
    simp
    refine ⟨n, m, rfl, ?_⟩
    have := h1.2.1 n hn
    simpa [this] using hR
  · rw [fm_const]
    refine ⟨_, blsD_rep, ?_⟩
    rw [all_rep]
    refine .inr ⟨rfl, _, rfl, _, intsD_nD, ?_, ?_, ?_⟩
    · exact List.pairwise_map.mpr (h1.1.imp fun {a b} (h : a ≠ b) => by omega)
    · have := h1.len; simp; omega
    · simpa using h2
end
def RksOk (many : Nat) (rs : List (List Nat)) : Prop := 1 ≤ rs.length ∧ rs.length ≤ 20 ∧ ∀ r ∈ rs, RkOk many r
def S_are_rankings : List Dat → (Dat → Prop) → Prop := fun ds P => ∃ (r : List (List Nat)) (m : Nat), ds = [rks r, nD m] ∧ RksOk m r ∧ P (.bl true)
theorem len_are_rankings (ds : List Dat) (Q : Dat → Prop) (h : S_are_rankings ds Q) : ds.length = P_are_rankings.length := by
  obtain ⟨d, a, rfl, _⟩ := h; rfl
section
variable {P : Program} {w : World} {K : PySem.W.Frag} {mg : Str → Option Value} {base : Heap}
theorem ok_are_rankings (g : Fx K mg base) : FnOk P w K mg base L2.CX0 4 g.f_are_rankings g.fd_are_rankings P_are_rankings (spF 0 S_are_rankings) := by
  refine okD g.F_are_rankings sc_are_rankings len_are_rankings (fun cdv A outer s H E hr => ?_)
  have nd := (sc_are_rankings).nd
  refine ⟨_, SDs.cost (sds_cons (sd_if ((pwd_or (ptd_not (ptd_val (pd_callB call_isi cd_isi (by rfl) g.b_isinstance boot_isinstance (phd_cons ((pd_var (pv 0))).toSh (phd_cons ((pd_ty (pe_bltn (by rfl) g.b_tuple boot_tuple rfl))).toSh phd_nil))))) (pwd_or1 (ptd_not (ptd_chain op_le op_le od_C od_C (pd_int).toSh ((pd_callB call_lenA cd_len (by rfl) g.b_len boot_len (phd_cons ((pd_var (pv 0))).toSh phd_nil))).toSh ((pd_gi (by rfl) g.i_MOST_MEMBERS)).toSh))))).pt (sds_cons (sd_ret pd_bl) sds_nil) sds_nil) (sds_cons (sd_ret (pd_callB (cr_all rfl) cd_all (by rfl) g.b_all boot_all (phd_cons ((pd_lc 1024 rfl nd (pid_tup (pd_var (pv 0))) (blkOk_by (own := [("ranking", 2)]) (by kernel_rfl)) (fun _ _ _ _ _ => (pgd_name (i := 2) nd rfl (by first | exact .inl rfl | exact .inr rfl))) (fun _ _ _ _ _ => ptsd_nil) (fun _ _ _ _ _ => (pd_call (ok_is_ranking g) (hr.mono (by decide)) (by rfl) g.g_is_ranking g.F_is_ranking.kp (b_is_ranking g) (pad_cons (pd_var (pv 2)) (pad_cons (pd_var (pv 1)) pad_nil)))))).toSh phd_nil))) sds_nil)) (by decide), fun ds Q h => ?_⟩
  obtain ⟨r, m, rfl, ⟨h1, h2, h3⟩, h4⟩ := h
  simp
  refine .inr ⟨by omega, .inr ⟨by omega, ?_⟩⟩
  refine ⟨_, rfl, _, rfl, lcp (fun _ => some (.bl true)) ?_ (fun d hd R hR => ?_) ?_⟩
  · simp; omega
  · obtain ⟨n, hn, rfl⟩ := List.mem_map.mp hd
    simp
    exact ⟨n, m, rfl, h3 n hn, hR⟩
  · rw [fm_const]
    refine ⟨_, blsD_rep, ?_⟩
    rw [all_rep]
    exact h4
end
def SidesOk (ls rs : List (List Nat)) : Prop := RksOk 20 ls ∧ RksOk ls.length rs ∧ ∀ r ∈ ls, ∀ x ∈ r, x < rs.length
def S_check_rankings : List Dat → (Dat → Prop) → Prop := fun ds P => ∃ (l r : List (List Nat)), ds = [rks l, rks r] ∧ SidesOk l r ∧ P .non
theorem len_check_rankings (ds : List Dat) (Q : Dat → Prop) (h : S_check_rankings ds Q) : ds.length = P_check_rankings.length := by
  obtain ⟨d, a, rfl, _⟩ := h; rfl
section
variable {P : Program} {w : World} {K : PySem.W.Frag} {mg : Str → Option Value} {base : Heap}
theorem ok_check_rankings (g : Fx K mg base) : FnOk P w K mg base L2.CX0 5 g.f_check_rankings g.fd_check_rankings P_check_rankings (spF 0 S_check_rankings) := by
  refine okD g.F_check_rankings sc_check_rankings len_check_rankings (fun cdv A outer s H E hr => ?_)
  have nd := (sc_check_rankings).nd
  refine ⟨_, SDs.cost (sds_cons (sd_if (ptd_not (ptd_val (pd_call (ok_are_rankings g) (hr.mono (by decide)) (by rfl) g.g_are_rankings g.F_are_rankings.kp (b_are_rankings g) (pad_cons (pd_var (pv 0)) (pad_cons (pd_gi (by rfl) g.i_MOST_MEMBERS) pad_nil))))) (sds_cons sd_never sds_nil) sds_nil) (sds_cons (sd_asg (i := 2) (pd_callB (call_maxA rfl) cd_max (by rfl) g.b_max boot_max (phd_cons ((pd_lst (pad_cons (pd_neg pd_int) (pad_star ((pd_lc2 (vs1 := [4]) rfl nd (pid_tup (pd_var (pv 0))) (blkOk_by (own := [("ranking", 3), ("right", 4)]) (by kernel_rfl)) (by decide) (fun _ _ _ _ _ => (pgd_name (i := 3) nd rfl (by first | exact .inl rfl | exact .inr rfl))) (fun _ _ _ _ _ => ptsd_nil) (fun _ _ _ _ _ => (pid_tup (pd_var (pv 3)))) (fun _ _ _ _ _ => (pgd_name (i := 4) nd rfl (by first | exact .inl rfl | exact .inr rfl))) (fun _ _ _ _ _ => ptsd_nil) (fun _ _ _ _ _ => (pd_var (pv 4))))).toSh pad_nil)))).toSh phd_nil)) nd rfl (.inl rfl)) (sds_cons (sd_if ((pwd_or (ptd_not (ptd_val (pd_call (ok_are_rankings g) (hr.mono (by decide)) (by rfl) g.g_are_rankings g.F_are_rankings.kp (b_are_rankings g) (pad_cons (pd_var (pv 1)) (pad_cons (pd_callB call_lenA cd_len (by rfl) g.b_len boot_len (phd_cons ((pd_var (pv 0))).toSh phd_nil)) pad_nil))))) (pwd_or1 (ptd_cmp op_le od_C ((pd_callB call_lenA cd_len (by rfl) g.b_len boot_len (phd_cons ((pd_var (pv 1))).toSh phd_nil))).toSh ((pd_var (pv 2))).toSh (nomark _))))).pt (sds_cons sd_never sds_nil) sds_nil) sds_nil))) (by decide), fun ds Q h => ?_⟩
  obtain ⟨l, r, rfl, ⟨h1, h2, h3⟩, h4⟩ := h
  simp
  refine ⟨l, 20, rfl, h1, rfl, ?_⟩
  refine ⟨_, rfl, _, rfl, ?_, fun i acc => ∃ ns : List Nat, acc = ns.map nD ∧ (∀ x ∈ ns, x < r.length) ∧ ns.length ≤ i * 20, ⟨[], rfl, by simp, by simp⟩, fun i d acc hd ⟨ns, ha, hx, hl⟩ => ?_, fun acc ⟨ns, ha, hx, hl⟩ => ?_⟩
  · simp; have := h1.2.1; omega
  · rw [List.getElem?_map] at hd
    cases e : l[i]? with
    | none => rw [e] at hd; cases hd
    | some row =>
      rw [e] at hd
      cases hd
      have hm : row ∈ l := List.mem_of_getElem? e
      have hrow := (h1.2.2 row hm).len
      simp
      refine ⟨_, rfl, ?_, fun j acc => ∃ ns : List Nat, acc = ns.map nD ∧ (∀ x ∈ ns, x < r.length) ∧ ns.length ≤ i * 20 + j, ⟨ns, ha, hx, by omega⟩, fun j d acc1 hd ⟨ns2, ha2, hx2, hl2⟩ => ?_, fun acc1 ⟨ns2, ha2, hx2, hl2⟩ => ⟨ns2, ha2, hx2, ?_⟩⟩
      · simp; omega
      · rw [List.getElem?_map] at hd
        cases e2 : row[j]? with
        | none => rw [e2] at hd; cases hd
        | some x =>
          rw [e2] at hd
          cases hd
          have hx3 := h3 row hm x (List.mem_of_getElem? e2)
          refine ⟨ns2 ++ [x], by rw [ha2]; simp, fun y hy => ?_, by simp; omega⟩
          rcases List.mem_append.mp hy with h | h
          · exact hx2 y h
          · rw [List.mem_singleton.mp h]; exact hx3
      · simp at hl2
        have e3 : (i + 1) * 20 = i * 20 + 20 := Nat.succ_mul _ _
        omega
  · subst ha
    have hl20 := h1.2.1
    refine ⟨_, .inl rfl, ?_, (-1) :: ns.map (fun (n : Nat) => (n : Int)), ?_, by simp, fun m hm _ => ⟨r, l.length, rfl, h2, rfl, ?_, h4⟩⟩
    · simp at hl ⊢
      omega
    · simp [intsD]
    · rcases List.mem_cons.mp hm with h | h
      · have := h2.1; omega
      · obtain ⟨n, hn, rfl⟩ := List.mem_map.mp h
        have := hx n hn
        omega
end
def fsS (l r : List (List Nat)) : List (Str × Dat) := [("lefts", rks l), ("rights", rks r)]
def pSides (C : Addr) (l r : List (List Nat)) : Dat := .obj C (fsS l r)
@[simp] theorem lkS_l {l r : List (List Nat)} : List.lookup (Str.ofString "lefts") (fsS l r) = some (rks l) := by rfl
@[simp] theorem lkS_r {l r : List (List Nat)} : List.lookup (Str.ofString "rights") (fsS l r) = some (rks r) := by rfl
/-! places in rows -/
def row (ls : List (List Nat)) (a : Nat) : List Nat := ls.getD a []
def at0 (r : List Nat) (a : Nat) : Nat := r.getD a 0
def oat (r : List (Option Nat)) (a : Nat) : Option Nat := r.getD a none
theorem ex1 {α : Type} {x : α} {P : α → Prop} : (∃ d, some x = some d ∧ P d) = P x := by
  apply propext
  constructor
  · rintro ⟨d, h, p⟩; cases h; exact p
  · intro p; exact ⟨x, rfl, p⟩
theorem fIx_rks {ls : List (List Nat)} {a : Nat} {P : Dat → Prop} (h : a < ls.length) : fIx (rks ls) (nD a) P = P (rk (row ls a)) := by
  have : atI (ls.map rk) ((a : Nat) : Int) = some (rk (row ls a)) := by
    apply atI_nat
    simp [h, row, at0, oat]
  show (∃ d, atI (ls.map rk) ((a : Nat) : Int) = some d ∧ P d) = _
  rw [this, ex1]
theorem fIx_rk {r : List Nat} {a : Nat} {P : Dat → Prop} (h : a < r.length) : fIx (rk r) (nD a) P = P (nD (at0 r a)) := by
  have : atI (r.map nD) ((a : Nat) : Int) = some (nD (at0 r a)) := by
    apply atI_nat
    simp [h, row, at0, oat]
  show (∃ d, atI (r.map nD) ((a : Nat) : Int) = some d ∧ P d) = _
  rw [this, ex1]
theorem fIx_lst {r : List Nat} {a : Nat} {P : Dat → Prop} (h : a < r.length) : fIx (.lst (r.map nD)) (nD a) P = P (nD (at0 r a)) := by
  have : atI (r.map nD) ((a : Nat) : Int) = some (nD (at0 r a)) := by
    apply atI_nat
    simp [h, at0]
  show (∃ d, atI (r.map nD) ((a : Nat) : Int) = some d ∧ P d) = _
  rw [this, ex1]
theorem fIx_out {r : List (Option Nat)} {a : Nat} {P : Dat → Prop} (h : a < r.length) : fIx (outD r) (nD a) P = P (oD (oat r a)) := by
  have : atI (r.map oD) ((a : Nat) : Int) = some (oD (oat r a)) := by
    apply atI_nat
    simp [h, row, at0, oat]
  show (∃ d, atI (r.map oD) ((a : Nat) : Int) = some d ∧ P d) = _
  rw [this, ex1]
@[simp] theorem any_nD {r : List Nat} {a : Nat} : ((r.map nD).any fun z => eqD z (nD a)) = decide (a ∈ r) := by
  rw [Bool.eq_iff_iff]
  simp [List.any_eq_true]
@[simp] theorem fIn_rk {neg : Bool} {r : List Nat} {a : Nat} {P : Dat → Prop} : fIn neg (nD a) (rk r) P = P (.bl (neg != decide (a ∈ r))) := by
  show (flatD (nD a) = true ∧ (r.map nD).all flatD = true ∧ P (.bl (neg != (r.map nD).any fun z => eqD z (nD a)))) = _
  rw [any_nD]
  simp
@[simp] theorem fIn_lst {neg : Bool} {r : List Nat} {a : Nat} {P : Dat → Prop} : fIn neg (nD a) (.lst (r.map nD)) P = P (.bl (neg != decide (a ∈ r))) := by
  show (pl 20 (nD a) = true ∧ pl 20 (.lst (r.map nD)) = true ∧ P (.bl (neg != (r.map nD).any fun z => eqD z (nD a)))) = _
  rw [any_nD]
  simp
def S_check_sides (C : Addr) : List Dat → (Dat → Prop) → Prop := fun ds P => ∃ fs, ds = [.obj C fs] ∧ P .non
theorem len_check_sides {C : Addr} (ds : List Dat) (Q : Dat → Prop) (h : S_check_sides C ds Q) : ds.length = P_check_sides.length := by
  obtain ⟨d, rfl, _⟩ := h; rfl
section
variable {P : Program} {w : World} {K : PySem.W.Frag} {mg : Str → Option Value} {base : Heap}
theorem ok_check_sides (g : Fx K mg base) : FnOk P w K mg base L2.CX0 1 g.f_check_sides g.fd_check_sides P_check_sides (spF 0 (S_check_sides g.C_Sides)) := by
  refine okD g.F_check_sides sc_check_sides len_check_sides (fun cdv A outer s H E hr => ?_)
  have nd := (sc_check_sides).nd
  refine ⟨_, SDs.cost (sds_cons (sd_if (ptd_not (ptd_val (pd_callB (call_isC g.ins_Sides) cd_isO (by rfl) g.b_isinstance boot_isinstance (phd_cons ((pd_var (pv 0))).toSh (phd_cons ((pd_cls (pe_gc (by rfl) ⟨_, g.g_Sides, rfl⟩))).toSh phd_nil))))) (sds_cons sd_never sds_nil) sds_nil) sds_nil) (by decide), fun ds Q h => ?_⟩
  obtain ⟨fs, rfl, h4⟩ := h
  simp [h4]
end
structure PL where
  lefts : List (List Nat)
  rights : List (List Nat)
  seats : List Nat
  groups : List Nat
  limits : List (List Nat)
def fsP (V : PL) : List (Str × Dat) := [("lefts", rks V.lefts), ("rights", rks V.rights), ("seats", rk V.seats), ("groups", rk V.groups), ("limits", rks V.limits)]
def pPl (C : Addr) (V : PL) : Dat := .obj C (fsP V)
@[simp] theorem lkP_l {V : PL} : List.lookup (Str.ofString "lefts") (fsP V) = some (rks V.lefts) := by rfl
@[simp] theorem lkP_r {V : PL} : List.lookup (Str.ofString "rights") (fsP V) = some (rks V.rights) := by rfl
@[simp] theorem lkP_s {V : PL} : List.lookup (Str.ofString "seats") (fsP V) = some (rk V.seats) := by rfl
@[simp] theorem lkP_g {V : PL} : List.lookup (Str.ofString "groups") (fsP V) = some (rk V.groups) := by rfl
@[simp] theorem lkP_m {V : PL} : List.lookup (Str.ofString "limits") (fsP V) = some (rks V.limits) := by rfl
structure PL.Ok (V : PL) : Prop where
  sd : SidesOk V.lefts V.rights
  se : V.seats.length = V.rights.length ∧ ∀ x ∈ V.seats, x ≤ 20
  gr : V.groups.length = V.lefts.length ∧ ∀ x ∈ V.groups, x < 4
  li : V.limits.length = V.rights.length ∧ ∀ r ∈ V.limits, r.length = 4 ∧ ∀ x ∈ r, x ≤ 20
def Z_check_places (C : Addr) : List Dat → (Dat → Prop) → Prop := fun ds P => ∃ fs, ds = [.obj C fs] ∧ P .non
def fitB (l r : List (List Nat)) (a b : Nat) : Bool := decide (b ∈ row l a) && decide (a ∈ row r b)
def Z_does_fit (C : Addr) : List Dat → (Dat → Prop) → Prop := fun ds P => ∃ (V : PL) (a b : Nat), ds = [pPl C V, nD a, nD b] ∧ a < V.lefts.length ∧ b < V.rights.length ∧ P (.bl (fitB V.lefts V.rights a b))
/-- the first place of a member -/
def ixo (r : List Nat) (a : Nat) : Nat := r.idxOf a
def abB (r : List Nat) (a : Nat) : Option Nat → Bool
  | none => true
  | some b => decide (ixo r a < ixo r b)
theorem dTIx_at {r : List Nat} {a : Nat} (h : a ∈ r) : (r.map nD)[ixo r a]? = some (nD a) ∧ ∀ m z, m < ixo r a → (r.map nD)[m]? = some z → eqD z (nD a) = false := by
  have hl : r.idxOf a < r.length := List.idxOf_lt_length_iff.mpr h
  refine ⟨?_, fun m z hm hz => ?_⟩
  · unfold ixo
    rw [List.getElem?_map, List.getElem?_eq_getElem hl, List.getElem_idxOf]
    rfl
  · rw [List.getElem?_map] at hz
    have hml : m < r.length := by unfold ixo at hm; omega
    rw [List.getElem?_eq_getElem hml] at hz
    cases hz
    have : r[m] ≠ a := fun e => by
      have h2 := List.not_of_lt_findIdx (p := (· == a)) (xs := r) (i := m) hm
      simp at h2
      exact h2 e
    simp [this]
def S_is_above : List Dat → (Dat → Prop) → Prop := fun ds P => ∃ (r : List Nat) (a : Nat) (o : Option Nat), ds = [rk r, nD a, oD o] ∧ a ∈ r ∧ (∀ b, o = some b → b ∈ r) ∧ P (.bl (abB r a o))
theorem len_is_above (ds : List Dat) (Q : Dat → Prop) (h : S_is_above ds Q) : ds.length = P_is_above.length := by
  obtain ⟨V, a, b, rfl, _⟩ := h; rfl
section
variable {P : Program} {w : World} {K : PySem.W.Frag} {mg : Str → Option Value} {base : Heap}
theorem ok_is_above (g : Fx K mg base) : FnOk P w K mg base L2.CX0 1 g.f_is_above g.fd_is_above P_is_above (spF 0 S_is_above) := by
  refine okD g.F_is_above sc_is_above len_is_above (fun cdv A outer s H E hr => ?_)
  have nd := (sc_is_above).nd
  refine ⟨_, SDs.cost (sds_cons (sd_ret (pd_or (pd_cmp op_isA od_is ((pd_var (pv 2))).toSh (pd_non).toSh (nomark _)) (pd_one (pd_cmp op_lt od_C ((pd_tindex (pd_var (pv 0)) (pd_var (pv 1)))).toSh ((pd_tindex (pd_var (pv 0)) (pd_var (pv 2)))).toSh (nomark _))))) sds_nil) (by decide), fun ds Q h => ?_⟩
  obtain ⟨r, a, o, rfl, h1, h2, h3⟩ := h
  simp
  cases o with
  | none => exact .inr ⟨rfl, h3⟩
  | some b =>
    obtain ⟨g1, g2⟩ := dTIx_at h1
    obtain ⟨g3, g4⟩ := dTIx_at (h2 b rfl)
    refine .inl ⟨rfl, _, rfl, by simp, ixo r a, nD a, g1, by simp, g2, _, rfl, by simp, ixo r b, nD b, g3, by simp [oD], g4, h3⟩
end
end K92
set_option maxRecDepth 100000
set_option maxHeartbeats 1000000
namespace K92
open PySem PySem.Spec PyProof.Rows L2 RZ DL LamX
open C8 (call_isC pe_gc InsC)
open M90
variable [TabC]
theorem pfS {l r : List (List Nat)} : putFD "rights" (rks r) (putFD "lefts" (rks l) []) = fsS l r := by rfl
theorem pf1 {f : Str} {a : Dat} : (putFD f a []).length < 1000 := by simp [putFD]
def S_init_Sides : List Dat → (List (Str × Dat) → Prop) → Prop := fun ds P => ∃ l r, ds = [rks l, rks r] ∧ SidesOk l r ∧ P (fsS l r)
theorem len_init_Sides (ds : List Dat) (Q : List (Str × Dat) → Prop) (h : S_init_Sides ds Q) : ds.length + 1 = Pi_Sides.length := by
  obtain ⟨l, r, rfl, _⟩ := h; rfl
section
variable {P : Program} {w : World} {K : PySem.W.Frag} {mg : Str → Option Value} {base : Heap}
theorem okI_Sides (g : Fx K mg base) : FnOk P w K mg base L2.CX0 6 g.fi_Sides g.fdi_Sides Pi_Sides (spI 0 g.C_Sides S_init_Sides) := by
  refine okI g.Fi_Sides sci_Sides len_init_Sides (fun cdv A outer s H E hr => ?_)
  have nd := (sci_Sides).nd
  refine ⟨_, SIs.cost (si_chk (sd_drop (pd_call (ok_check_rankings g) (hr.mono (by decide)) (by rfl) g.g_check_rankings g.F_check_rankings.kp (b_check_rankings g) (pad_cons (pd_var (pv 1)) (pad_cons (pd_var (pv 2)) pad_nil)))) (si_set g.cl_Sides g.na_Sides_lefts (pv 0) (pd_var (pv 1)) (si_set g.cl_Sides g.na_Sides_rights (pv 0) (pd_var (pv 2)) si_nil))) (by decide), fun ds Q p h => ?_⟩
  obtain ⟨l, r, rfl, h1, h2⟩ := h
  simp
  exact ⟨l, r, rfl, h1, pf1, by rw [pfS]; exact h2⟩
end
theorem pfP {V : PL} : putFD "limits" (rks V.limits) (putFD "groups" (rk V.groups) (putFD "seats" (rk V.seats) (putFD "rights" (rks V.rights) (putFD "lefts" (rks V.lefts) [])))) = fsP V := by rfl
theorem pf2 {V : PL} : (putFD "rights" (rks V.rights) (putFD "lefts" (rks V.lefts) [])).length < 1000 := by rw [show putFD "rights" (rks V.rights) (putFD "lefts" (rks V.lefts) []) = ([("lefts", rks V.lefts), ("rights", rks V.rights)] : List (Str × Dat)) by rfl]; simp
theorem pf3 {V : PL} : (putFD "seats" (rk V.seats) (putFD "rights" (rks V.rights) (putFD "lefts" (rks V.lefts) []))).length < 1000 := by rw [show putFD "seats" (rk V.seats) (putFD "rights" (rks V.rights) (putFD "lefts" (rks V.lefts) [])) = ([("lefts", rks V.lefts), ("rights", rks V.rights), ("seats", rk V.seats)] : List (Str × Dat)) by rfl]; simp
theorem pf4 {V : PL} : (putFD "groups" (rk V.groups) (putFD "seats" (rk V.seats) (putFD "rights" (rks V.rights) (putFD "lefts" (rks V.lefts) [])))).length < 1000 := by rw [show putFD "groups" (rk V.groups) (putFD "seats" (rk V.seats) (putFD "rights" (rks V.rights) (putFD "lefts" (rks V.lefts) []))) = ([("lefts", rks V.lefts), ("rights", rks V.rights), ("seats", rk V.seats), ("groups", rk V.groups)] : List (Str × Dat)) by rfl]; simp
def Z_init_Places : List Dat → (List (Str × Dat) → Prop) → Prop := fun ds P => ∃ V : PL, ds = [rks V.lefts, rks V.rights, rk V.seats, rk V.groups, rks V.limits] ∧ V.Ok ∧ P (fsP V)
def memb (o : List (Option Nat)) (r : Nat) : List Nat := (List.range o.length).filter fun l => decide (oat o l = some r)
theorem rng0 {n : Nat} : rngD 0 n = (List.range n).map nD := by simp [rngD, nD]
theorem enum_map {α : Type} {l : List α} {F : α → Dat} : enumD (l.map F) = l.zipIdx.map fun q => .tup [nD q.2, F q.1] := by
  apply List.ext_getElem?
  intro i
  rw [enumD_get, List.getElem?_map, List.getElem?_map, List.getElem?_zipIdx]
  cases l[i]? <;> simp [nD]
theorem oat_lt {o : List (Option Nat)} {i : Nat} (h : i < o.length) : oat o i = o[i] := by simp [oat, h]
theorem enum_out {o : List (Option Nat)} : enumD (o.map oD) = (List.range o.length).map fun i => .tup [nD i, oD (oat o i)] := by
  apply List.ext_getElem?
  intro i
  rw [enumD_get, List.getElem?_map, List.getElem?_map]
  by_cases h : i < o.length
  · simp [h, oat, nD]
  · simp [h]
@[simp] theorem eqD_on {o : Option Nat} {r : Nat} : eqD (oD o) (nD r) = decide (o = some r) := by
  cases o with
  | none => rfl
  | some a => simp [oD]
def Z_members_of : List Dat → (Dat → Prop) → Prop := fun ds P => ∃ (o : List (Option Nat)) (r : Nat), ds = [outD o, nD r] ∧ o.length ≤ 1000 ∧ P (.lst ((memb o r).map nD))
def ChL (V : PL) (r : Nat) (S : Nat → Bool) : List Nat := grd (at0 V.groups) (row V.rights r) (at0 V.seats r) (at0 (row V.limits r)) S
def asc (n : Nat) (p : Nat → Bool) : List Nat := (List.range n).filter p
def takenL (V : PL) (r : Nat) (S : Nat → Bool) : List Nat := asc V.lefts.length fun l => decide (l ∈ ChL V r S)
theorem at0_get {r : List Nat} {a : Nat} (h : a < r.length) : r[a]? = some (at0 r a) := by simp [at0, h]
theorem at0_set_same {r : List Nat} {a v : Nat} (h : a < r.length) : at0 (r.set a v) a = v := by simp [at0, h]
theorem at0_set_ne {r : List Nat} {a b v : Nat} (h : b ≠ a) : at0 (r.set a v) b = at0 r b := by simp [at0, List.getElem?_set_ne (Ne.symm h)]
theorem row_mem {ls : List (List Nat)} {a : Nat} (h : a < ls.length) : row ls a ∈ ls := by
  unfold row
  rw [List.getD_eq_getElem?_getD, List.getElem?_eq_getElem h]
  simp
theorem at0_mem {r : List Nat} {a : Nat} (h : a < r.length) : at0 r a ∈ r := by
  unfold at0
  rw [List.getD_eq_getElem?_getD, List.getElem?_eq_getElem h]
  simp
theorem asc_unique {n : Nat} {F : List Nat} {ms : List Int} (hF : F.Nodup) (hn : ∀ x ∈ F, x < n) (hp : ms.Perm (F.map fun (x : Nat) => (x : Int))) (hs : ms.Pairwise (· ≤ ·)) : ms = (asc n fun l => decide (l ∈ F)).map fun (x : Nat) => (x : Int) := by
  have h1 : (asc n fun l => decide (l ∈ F)).Perm F := by
    refine (List.perm_ext_iff_of_nodup (List.Pairwise.filter _ List.nodup_range) hF).mpr ?_
    intro a
    simp only [List.mem_filter, List.mem_range, decide_eq_true_eq]
    exact ⟨fun h => h.2, fun h => ⟨hn a h, h⟩⟩
  have h2 : ms.Perm ((asc n fun l => decide (l ∈ F)).map fun (x : Nat) => (x : Int)) := hp.trans (h1.map _).symm
  refine h2.eq_of_pairwise (le := (· ≤ ·)) (fun a b _ _ h h' => by omega) hs ?_
  rw [List.pairwise_map]
  have : (List.range n).Pairwise (· ≤ ·) := List.pairwise_le_range
  exact (this.filter _).imp fun h => by omega
def taken_Iv (C : Addr) (V : PL) (r : Nat) (M : List Nat) (i : Nat) (ε : Ev) : Prop := ∃ (c F : List Nat) (x5 x6 : Sl), ε = [Sl.val (pPl C V), Sl.val (nD r), Sl.val (Dat.lst (List.map nD M)), Sl.own (.lst (c.map nD)), Sl.own (.lst (F.map nD)), x5, x6] ∧ c.length = 4 ∧ F.length ≤ i ∧
  ChL V r (fun l => decide (l ∈ M)) = F ++ grd (at0 V.groups) ((row V.rights r).drop i) (at0 V.seats r - F.length) (fun q => at0 (row V.limits r) q - at0 c q) (fun l => decide (l ∈ M))
def Z_taken_of (C : Addr) : List Dat → (Dat → Prop) → Prop := fun ds P => ∃ (V : PL) (r : Nat) (M : List Nat), ds = [pPl C V, nD r, .lst (M.map nD)] ∧ V.Ok ∧ r < V.rights.length ∧ P (.lst ((takenL V r fun l => decide (l ∈ M)).map nD))
structure IsOut (V : PL) (o : List (Option Nat)) : Prop where
  len : o.length = V.lefts.length
  fit : ∀ l r, oat o l = some r → l < V.lefts.length → r < V.rights.length ∧ fitB V.lefts V.rights l r = true
  tak : ∀ r, r < V.rights.length → takenL V r (fun l => decide (l ∈ memb o r)) = memb o r
theorem eqDs_nD {xs ys : List Nat} : eqDs (xs.map nD) (ys.map nD) = decide (xs = ys) := by
  induction xs generalizing ys with
  | nil => cases ys <;> simp [eqDs]
  | cons x xs ih =>
    cases ys with
    | nil => simp [eqDs]
    | cons y ys => simp [eqDs, ih]
@[simp] theorem eqD_lnD {xs ys : List Nat} : eqD (.lst (xs.map nD)) (.lst (ys.map nD)) = decide (xs = ys) := by
  simp only [eqD, eqDs_nD]
theorem eqD_lnil {xs : List Dat} : eqD (.lst xs) (.lst []) = decide (xs = []) := by
  cases xs <;> simp [eqD, eqDs]
def Z_is_outcome (C : Addr) : List Dat → (Dat → Prop) → Prop := fun ds P => ∃ (V : PL) (o : List (Option Nat)), ds = [pPl C V, outD o] ∧ V.Ok ∧ IsOut V o ∧ P (.bl true)
def Blk (V : PL) (o : List (Option Nat)) (l r : Nat) : Prop := l < V.lefts.length ∧ r ∈ row V.lefts l ∧ fitB V.lefts V.rights l r = true ∧ oat o l ≠ some r ∧ abB (row V.lefts l) r (oat o l) = true ∧ l ∈ ChL V r (fun x => decide (x ∈ memb o r ++ [l]))
def pairD (q : Nat × Nat) : Dat := .tup [nD q.1, nD q.2]
def blk_Iv (C : Addr) (V : PL) (o : List (Option Nat)) (i : Nat) (ε : Ev) : Prop := ∃ (bs : List (Nat × Nat)) (x3 x4 x5 : Sl), ε = [Sl.val (Dat.obj C (fsP V)), Sl.val (outD o), Sl.own (.lst (bs.map pairD)), x3, x4, x5] ∧ bs.length ≤ i * 20 ∧ (bs = [] ↔ ∀ l r, l < i → ¬ Blk V o l r)
def blk_Iw (C : Addr) (V : PL) (o : List (Option Nat)) (i : Nat) (srt : List Nat) (j : Nat) (ε : Ev) : Prop := ∃ (bs : List (Nat × Nat)) (x5 : Sl), ε = [Sl.val (Dat.obj C (fsP V)), Sl.val (outD o), Sl.own (.lst (bs.map pairD)), Sl.val (nD i), Sl.val (rk (row V.lefts i)), x5] ∧ bs.length ≤ i * 20 + j ∧
  (bs = [] ↔ (∀ l r, l < i → ¬ Blk V o l r) ∧ ∀ r ∈ srt.take j, ¬ Blk V o i r)
@[simp] theorem eqD_no {o : Option Nat} {r : Nat} : eqD (nD r) (oD o) = decide (o = some r) := by
  cases o with
  | none => rfl
  | some a =>
    simp [oD]
    exact eq_comm
theorem fitB_iff {l r : List (List Nat)} {a b : Nat} : fitB l r a b = true ↔ b ∈ row l a ∧ a ∈ row r b := by simp [fitB]
theorem memb_len {o : List (Option Nat)} {r : Nat} : (memb o r).length ≤ o.length := by
  have := List.length_filter_le (fun l => decide (oat o l = some r)) (List.range o.length)
  simpa [memb] using this
theorem mem_asc {n : Nat} {p : Nat → Bool} {x : Nat} : x ∈ asc n p ↔ x < n ∧ p x = true := by simp [asc]
theorem mem_takenL {V : PL} {r : Nat} {S : Nat → Bool} {l : Nat} (ok : V.Ok) (hr : r < V.rights.length) : l ∈ takenL V r S ↔ l ∈ ChL V r S := by
  unfold takenL
  rw [mem_asc]
  simp only [decide_eq_true_eq]
  exact ⟨fun h => h.2, fun h => ⟨(ok.sd.2.1.2.2 _ (row_mem hr)).2.1 l (grd_sub h).1, h⟩⟩
theorem map_rks_get {ls : List (List Nat)} {i : Nat} {d : Dat} (h : (ls.map rk)[i]? = some d) : i < ls.length ∧ d = rk (row ls i) := by
  rw [List.getElem?_map] at h
  cases e : ls[i]? with
  | none => rw [e] at h; cases h
  | some r =>
    rw [e] at h
    cases h
    obtain ⟨h1, h2⟩ := List.getElem?_eq_some_iff.mp e
    refine ⟨h1, ?_⟩
    unfold row
    rw [List.getD_eq_getElem?_getD, e]
    rfl
theorem map_nD_get {r : List Nat} {i : Nat} {d : Dat} (h : (r.map nD)[i]? = some d) : i < r.length ∧ r[i]? = some (at0 r i) ∧ d = nD (at0 r i) := by
  rw [List.getElem?_map] at h
  cases e : r[i]? with
  | none => rw [e] at h; cases h
  | some x =>
    rw [e] at h
    cases h
    obtain ⟨h1, h2⟩ := List.getElem?_eq_some_iff.mp e
    have : at0 r i = x := by simp [at0, e]
    rw [this]
    exact ⟨h1, rfl, rfl⟩
theorem sorted_at {r : List Nat} {n : Nat} {P : Dat → Prop} (hn : r.Nodup) (hl : ∀ x ∈ r, x < n) (h : P (.lst ((asc n fun x => decide (x ∈ r)).map nD))) : fSorted [rk r] P := by
  refine ⟨_, intsD_nD, fun ms h1 h2 => ?_⟩
  rw [asc_unique hn hl h1 h2, List.map_map]
  exact h
theorem asc_len {n : Nat} {p : Nat → Bool} : (asc n p).length ≤ n := by
  have := List.length_filter_le p (List.range n)
  simpa [asc] using this
def Z_blocks_in (C : Addr) : List Dat → (Dat → Prop) → Prop := fun ds P => ∃ (V : PL) (o : List (Option Nat)), ds = [pPl C V, outD o] ∧ V.Ok ∧ IsOut V o ∧ ∀ bs : List (Nat × Nat), (bs = [] ↔ ∀ l r, ¬ Blk V o l r) → P (.lst (bs.map pairD))
def hrow (h : List (List Nat)) (r : Nat) : List Nat := row h r
def heldD (h : List (List Nat)) : Dat := .lst (h.map fun x => .lst (x.map nD))
def oo_Iv (C : Addr) (V : PL) (h : List (List Nat)) (i : Nat) (ε : Ev) : Prop := ∃ (f : List (Option Nat)) (x3 x4 x5 : Sl), ε = [Sl.val (Dat.obj C (fsP V)), Sl.val (heldD h), Sl.own (.lst (f.map oD)), x3, x4, x5] ∧ f.length = V.lefts.length ∧ ∀ l r, oat f l = some r ↔ r < i ∧ l ∈ row h r
def oo_Iw (C : Addr) (V : PL) (h : List (List Nat)) (i j : Nat) (ε : Ev) : Prop := ∃ (f : List (Option Nat)) (x5 : Sl), ε = [Sl.val (Dat.obj C (fsP V)), Sl.val (heldD h), Sl.own (.lst (f.map oD)), Sl.val (nD i), Sl.val (.lst ((row h i).map nD)), x5] ∧ f.length = V.lefts.length ∧
  ∀ l r, oat f l = some r ↔ (r < i ∧ l ∈ row h r) ∨ (r = i ∧ l ∈ (row h i).take j)
theorem row_out {ls : List (List Nat)} {r : Nat} (h : ls.length ≤ r) : row ls r = [] := by simp [row, h]
theorem oat_set_same {f : List (Option Nat)} {a : Nat} {v : Option Nat} (h : a < f.length) : oat (f.set a v) a = v := by simp [oat, h]
theorem oat_set_ne {f : List (Option Nat)} {a b : Nat} {v : Option Nat} (h : b ≠ a) : oat (f.set a v) b = oat f b := by simp [oat, List.getElem?_set_ne (Ne.symm h)]
theorem ixN_nat {n i : Nat} (h : i < n) : ixN n (i : Int) = some i := by
  unfold ixN
  rw [if_pos (by omega), if_pos (by omega)]
  simp
theorem map_held_get {h : List (List Nat)} {i : Nat} {d : Dat} (e : (h.map fun x => Dat.lst (x.map nD))[i]? = some d) : i < h.length ∧ d = .lst ((row h i).map nD) := by
  rw [List.getElem?_map] at e
  cases q : h[i]? with
  | none => rw [q] at e; cases e
  | some r =>
    rw [q] at e
    cases e
    obtain ⟨h1, h2⟩ := List.getElem?_eq_some_iff.mp q
    refine ⟨h1, ?_⟩
    unfold row
    rw [List.getD_eq_getElem?_getD, q]
    rfl
def Z_outcome_of (C : Addr) : List Dat → (Dat → Prop) → Prop := fun ds P => ∃ (V : PL) (h : List (List Nat)), ds = [pPl C V, heldD h] ∧ V.Ok ∧ h.length ≤ 20 ∧ (∀ r x, x ∈ row h r → x < V.lefts.length) ∧ (∀ r, (row h r).length ≤ 20) ∧ (∀ r s x, x ∈ row h r → x ∈ row h s → r = s) ∧
  ∀ o : List (Option Nat), o.length = V.lefts.length → (∀ l r, oat o l = some r ↔ l ∈ row h r) → P (outD o)
end K92
set_option maxRecDepth 100000
set_option maxHeartbeats 2000000
/-! M2: asking down the rankings, plain. -/
namespace K92
variable [DL.TabC]
open PySem PySem.Spec PyProof.Rows L2 RZ DL M90
def setOf (L : List Nat) : Nat → Bool := fun x => decide (x ∈ L)
@[simp] theorem setOf_iff {L : List Nat} {x : Nat} : setOf L x = true ↔ x ∈ L := by simp [setOf]
/-! ### whom a right takes -/
section
variable {V : PL} {r : Nat} {A B : Nat → Bool} {l : Nat}
theorem gp4 (ok : V.Ok) (hr : r < V.rights.length) : ∀ x ∈ row V.rights r, at0 V.groups x < 4 := fun x hx => by
  have := (ok.sd.2.1.2.2 _ (row_mem hr)).2.1 x hx
  exact ok.gr.2 _ (at0_mem (by rw [ok.gr.1]; exact this))
theorem Ch_in (h : l ∈ ChL V r A) : l ∈ row V.rights r ∧ A l = true := grd_sub h
theorem Ch_sub (ok : V.Ok) (hr : r < V.rights.length) (hAB : ∀ x, A x = true → B x = true) (h : l ∈ ChL V r B) (ha : A l = true) : l ∈ ChL V r A :=
  (grd_mono (gp4 ok hr) hAB (fun _ => Nat.le_refl _) rfl).1 l h ha
theorem Ch_irc (hAB : ∀ x, A x = true → B x = true) (h : ∀ x, x ∈ ChL V r B → A x = true) : ChL V r A = ChL V r B := grd_irc hAB h
theorem Ch_lad (ok : V.Ok) (hr : r < V.rights.length) (hAB : ∀ x, A x = true → B x = true) : (ChL V r A).length ≤ (ChL V r B).length := by
  have := (grd_mono (gp4 ok hr) hAB (lA := at0 (row V.limits r)) (lB := at0 (row V.limits r)) (fun _ => Nat.le_refl _) (sA := at0 V.seats r) (sB := at0 V.seats r) rfl).2
  unfold ChL
  omega
theorem Ch_nd (ok : V.Ok) (hr : r < V.rights.length) : (ChL V r A).Nodup := grd_nodup (ok.sd.2.1.2.2 _ (row_mem hr)).1
end
/-- what never can be refused -/
def Core (V : PL) (ν : Nat → Option Nat) : Prop := ∀ (r : Nat) (A : Nat → Bool) (l0 : Nat), r < V.rights.length → (∀ l, A l = true → l < V.lefts.length ∧ r ∈ row V.lefts l ∧ (ν l = some r ∨ abB (row V.lefts l) r (ν l) = true)) → A l0 = true → ν l0 = some r → l0 ∈ ChL V r A
theorem idx_at {xs : List Nat} (hn : xs.Nodup) {p r : Nat} (h : xs[p]? = some r) : ixo xs r = p := by
  obtain ⟨h1, h2⟩ := List.getElem?_eq_some_iff.mp h
  unfold ixo
  rw [← h2]
  exact hn.idxOf_getElem p h1
theorem get_ixo {xs : List Nat} {r : Nat} (h : r ∈ xs) : xs[ixo xs r]? = some r := by
  have hl : xs.idxOf r < xs.length := List.idxOf_lt_length_iff.mpr h
  unfold ixo
  rw [List.getElem?_eq_getElem hl, List.getElem_idxOf]
theorem ixo_out {xs : List Nat} {r : Nat} (h : r ∉ xs) : ixo xs r = xs.length := by
  unfold ixo
  exact List.idxOf_eq_length h
/-- who asks there has lost all that is above -/
theorem bet_of {xs : List Nat} (hn : xs.Nodup) {p r : Nat} (h : xs[p]? = some r) {o : Option Nat} (hd : ∀ k s, k < p → xs[k]? = some s → o ≠ some s) : o = some r ∨ abB xs r o = true := by
  cases o with
  | none => exact .inr rfl
  | some s =>
    by_cases e : s = r
    · subst e; exact .inl rfl
    · right
      show decide (ixo xs r < ixo xs s) = true
      rw [decide_eq_true_eq, idx_at hn h]
      by_cases hs : s ∈ xs
      · have h1 := get_ixo hs
        rcases Nat.lt_trichotomy (ixo xs s) p with q | q | q
        · exact (hd _ _ q h1 rfl).elim
        · rw [q, h] at h1
          cases h1
          exact (e rfl).elim
        · exact q
      · rw [ixo_out hs]
        exact (List.getElem?_eq_some_iff.mp h).1
structure DAI (V : PL) (at' : Nat → Nat) (held : Nat → List Nat) (W : List Nat) : Prop where
  wnd : W.Nodup
  wlt : ∀ x ∈ W, x < V.lefts.length
  atl : ∀ x, at' x ≤ (row V.lefts x).length
  hat : ∀ r x, x ∈ held r → x < V.lefts.length ∧ x ∉ W ∧ 0 < at' x ∧ (row V.lefts x)[at' x - 1]? = some r
  all : ∀ x, x < V.lefts.length → x ∉ W → at' x < (row V.lefts x).length → ∃ r, x ∈ held r
  fix : ∀ r, r < V.rights.length → ∀ x, x ∈ held r ↔ x ∈ ChL V r (setOf (held r))
  hnd : ∀ r, (held r).Nodup
  dead : ∀ x k r, x < V.lefts.length → k < at' x → (row V.lefts x)[k]? = some r → x ∉ held r → x ∉ ChL V r (fun y => decide (y ∈ held r ∨ y = x)) ∧ ∀ ν, Core V ν → ν x ≠ some r
theorem Ch_nil {V : PL} {r : Nat} {A : Nat → Bool} (h : ∀ x, A x = false) : ChL V r A = [] := by
  apply List.eq_nil_iff_forall_not_mem.mpr
  intro x hx
  have := (Ch_in hx).2
  rw [h x] at this
  cases this
theorem DAI.init (V : PL) : DAI V (fun _ => 0) (fun _ => []) (List.range V.lefts.length) where
  wnd := List.nodup_range
  wlt := fun x hx => List.mem_range.mp hx
  atl := fun x => Nat.zero_le _
  hat := fun r x hx => by simp at hx
  all := fun x h1 h2 => (h2 (List.mem_range.mpr h1)).elim
  fix := fun r hr x => by
    rw [Ch_nil (by intro x; simp [setOf])]
  hnd := fun r => .nil
  dead := fun x k r _ hk => by omega
theorem nodup_last {W : List Nat} {l : Nat} (h : (W ++ [l]).Nodup) : W.Nodup ∧ l ∉ W := by
  rw [List.nodup_append] at h
  exact ⟨h.1, fun hl => h.2.2 l hl l (by simp) rfl⟩
/-- one who has asked all -/
theorem DAI.drop {V : PL} {at' : Nat → Nat} {held : Nat → List Nat} {W : List Nat} {l : Nat} (d : DAI V at' held (W ++ [l])) (h : at' l = (row V.lefts l).length) : DAI V at' held W :=
  { d with
    wnd := (nodup_last d.wnd).1
    wlt := fun x hx => d.wlt x (List.mem_append_left _ hx)
    hat := fun r x hx => by
      obtain ⟨h1, h2, h3⟩ := d.hat r x hx
      exact ⟨h1, fun q => h2 (List.mem_append_left _ q), h3⟩
    all := fun x h1 h2 h3 => by
      refine d.all x h1 (fun q => ?_) h3
      rcases List.mem_append.mp q with q | q
      · exact h2 q
      · have := List.mem_singleton.mp q
        subst this
        omega }
/-- one asks the next -/
theorem DAI.ask {V : PL} (ok : V.Ok) {at' : Nat → Nat} {held : Nat → List Nat} {W : List Nat} {l r : Nat} (d : DAI V at' held (W ++ [l])) (hr0 : (row V.lefts l)[at' l]? = some r) :
    DAI V (fun x => if x = l then at' l + 1 else at' x) (fun s => if s = r then takenL V r (setOf (held r ++ [l])) else held s) (W ++ (held r ++ [l]).filter fun x => !decide (x ∈ takenL V r (setOf (held r ++ [l])))) := by
  have hll : l < V.lefts.length := d.wlt l (by simp)
  have hrow := ok.sd.1.2.2 _ (row_mem hll)
  have hr : r < V.rights.length := ok.sd.2.2 _ (row_mem hll) r (List.mem_of_getElem? hr0)
  have hatl : at' l < (row V.lefts l).length := (List.getElem?_eq_some_iff.mp hr0).1
  obtain ⟨wn, wl⟩ := nodup_last d.wnd
  have hT : ∀ x, x ∈ takenL V r (setOf (held r ++ [l])) ↔ x ∈ ChL V r (setOf (held r ++ [l])) := fun x => mem_takenL ok hr
  have hTB : ∀ x, x ∈ takenL V r (setOf (held r ++ [l])) → x ∈ held r ++ [l] := fun x hx => by simpa using (Ch_in ((hT x).mp hx)).2
  have lh : ∀ s, l ∉ held s := fun s hs => (d.hat s l hs).2.1 (by simp)
  -- the others stay
  have rne : ∀ x s, x ∈ held s → x ≠ l := fun x s hx e => lh s (e ▸ hx)
  have only : ∀ x s t, x ∈ held s → x ∈ held t → s = t := fun x s t h1 h2 => by
    have a1 := (d.hat s x h1).2.2.2
    have a2 := (d.hat t x h2).2.2.2
    rw [a1] at a2
    cases a2
    rfl
  have bpos : ∀ x, x ∈ held r ++ [l] → x < V.lefts.length ∧ ∃ p, (row V.lefts x)[p]? = some r ∧ p < (if x = l then at' l + 1 else at' x) ∧ p + 1 = (if x = l then at' l + 1 else at' x) := fun x hx => by
    rcases List.mem_append.mp hx with hx | hx
    · obtain ⟨h1, h2, h3, h4⟩ := d.hat r x hx
      refine ⟨h1, at' x - 1, h4, ?_, ?_⟩
      · rw [if_neg (rne x r hx)]; omega
      · rw [if_neg (rne x r hx)]; omega
    · have := List.mem_singleton.mp hx
      subst this
      exact ⟨hll, at' x, hr0, by rw [if_pos rfl]; omega, by rw [if_pos rfl]⟩
  have lost : ∀ ν, Core V ν → ∀ x, x ∈ held r ++ [l] → r ∈ row V.lefts x ∧ (ν x = some r ∨ abB (row V.lefts x) r (ν x) = true) := fun ν hν x hx => by
    obtain ⟨hx1, p, hp, hp1, hp2⟩ := bpos x hx
    refine ⟨List.mem_of_getElem? hp, bet_of (ok.sd.1.2.2 _ (row_mem hx1)).1 hp fun k s hk hs => ?_⟩
    refine (d.dead x k s hx1 ?_ hs ?_).2 ν hν
    · by_cases e : x = l
      · subst e; rw [if_pos rfl] at hp2; omega
      · rw [if_neg e] at hp2; omega
    · intro hxs
      rcases List.mem_append.mp hx with hx | hx
      · have := only x s r hxs hx
        subst this
        have n := (ok.sd.1.2.2 _ (row_mem hx1)).1
        have i1 := idx_at n hs
        have i2 := idx_at n hp
        omega
      · have := List.mem_singleton.mp hx
        subst this
        exact lh s hxs
  refine ⟨?_, ?_, ?_, ?_, ?_, ?_, ?_, ?_⟩
  · refine List.nodup_append.mpr ⟨wn, List.Pairwise.filter _ ?_, fun a ha b hb e => ?_⟩
    · refine List.nodup_append.mpr ⟨d.hnd r, by simp, fun a ha b hb e => ?_⟩
      have := List.mem_singleton.mp hb
      subst e this
      exact lh r ha
    · subst e
      have hb := (List.mem_filter.mp hb).1
      rcases List.mem_append.mp hb with hb | hb
      · exact (d.hat r a hb).2.1 (List.mem_append_left _ ha)
      · have := List.mem_singleton.mp hb
        subst this
        exact wl ha
  · intro x hx
    rcases List.mem_append.mp hx with hx | hx
    · exact d.wlt x (List.mem_append_left _ hx)
    · exact (bpos x (List.mem_filter.mp hx).1).1
  · intro x
    show (if x = l then at' l + 1 else at' x) ≤ _
    split
    · rename_i e; subst e; omega
    · exact d.atl x
  · intro s x hx
    have hx : x ∈ if s = r then takenL V r (setOf (held r ++ [l])) else held s := hx
    show x < V.lefts.length ∧ x ∉ _ ∧ 0 < (if x = l then at' l + 1 else at' x) ∧ (row V.lefts x)[(if x = l then at' l + 1 else at' x) - 1]? = some s
    by_cases e : s = r
    · subst e
      rw [if_pos rfl] at hx
      have hb := hTB x hx
      obtain ⟨h1, p, hp, hp1, hp2⟩ := bpos x hb
      refine ⟨h1, fun q => ?_, by omega, by rw [← hp2]; exact hp⟩
      rcases List.mem_append.mp q with q1 | q1
      · rcases List.mem_append.mp hb with hb1 | hb1
        · exact (d.hat s x hb1).2.1 (List.mem_append_left _ q1)
        · have e9 := List.mem_singleton.mp hb1
          rw [e9] at q1
          exact wl q1
      · have := (List.mem_filter.mp q1).2
        simp at this
        exact this hx
    · rw [if_neg e] at hx
      obtain ⟨h1, h2, h3, h4⟩ := d.hat s x hx
      rw [if_neg (rne x s hx)]
      refine ⟨h1, fun q => ?_, h3, h4⟩
      rcases List.mem_append.mp q with q | q
      · exact h2 (List.mem_append_left _ q)
      · have hb := (List.mem_filter.mp q).1
        rcases List.mem_append.mp hb with hb | hb
        · exact e (only x s r hx hb)
        · exact rne x s hx (List.mem_singleton.mp hb)
  · intro x h1 h2 h3
    have h3 : (if x = l then at' l + 1 else at' x) < (row V.lefts x).length := h3
    show ∃ s, x ∈ if s = r then takenL V r (setOf (held r ++ [l])) else held s
    by_cases hb : x ∈ held r ++ [l]
    · refine ⟨r, ?_⟩
      rw [if_pos rfl]
      apply Classical.byContradiction
      intro hn
      exact h2 (List.mem_append_right _ (List.mem_filter.mpr ⟨hb, by simp [hn]⟩))
    · have hxl : x ≠ l := fun e => hb (by simp [e])
      rw [if_neg hxl] at h3
      obtain ⟨s, hs⟩ := d.all x h1 (fun q => by
        rcases List.mem_append.mp q with q | q
        · exact h2 (List.mem_append_left _ q)
        · exact hxl (List.mem_singleton.mp q)) h3
      refine ⟨s, ?_⟩
      have : s ≠ r := fun e => hb (List.mem_append_left _ (e ▸ hs))
      rw [if_neg this]
      exact hs
  · intro s hs x
    show x ∈ (if s = r then takenL V r (setOf (held r ++ [l])) else held s) ↔ x ∈ ChL V s (setOf (if s = r then takenL V r (setOf (held r ++ [l])) else held s))
    by_cases e : s = r
    · subst e
      rw [if_pos rfl, hT]
      have : ChL V s (setOf (takenL V s (setOf (held s ++ [l])))) = ChL V s (setOf (held s ++ [l])) :=
        Ch_irc (fun x hx => by simpa using hTB x (by simpa using hx)) fun x hx => by simpa using (hT x).mpr hx
      rw [this]
    · rw [if_neg e]
      exact d.fix s hs x
  · intro s
    show (if s = r then takenL V r (setOf (held r ++ [l])) else held s).Nodup
    split
    · exact List.Pairwise.filter _ List.nodup_range
    · exact d.hnd s
  · intro x k s h1 h2 h3 h4
    replace h2 : k < (if x = l then at' l + 1 else at' x) := h2
    replace h4 : x ∉ if s = r then takenL V r (setOf (held r ++ [l])) else held s := h4
    show x ∉ ChL V s (fun y => decide (y ∈ (if s = r then takenL V r (setOf (held r ++ [l])) else held s) ∨ y = x)) ∧ _
    by_cases e : s = r
    · subst e
      rw [if_pos rfl] at h4 ⊢
      by_cases hb : x ∈ held s ++ [l]
      · have hn : x ∉ ChL V s (setOf (held s ++ [l])) := fun q => h4 ((hT x).mpr q)
        refine ⟨?_, fun ν hν q => ?_⟩
        · have : ChL V s (fun y => decide (y ∈ takenL V s (setOf (held s ++ [l])) ∨ y = x)) = ChL V s (setOf (held s ++ [l])) := Ch_irc (fun y hy => by
            have hy : y ∈ takenL V s (setOf (held s ++ [l])) ∨ y = x := by simpa using hy
            rcases hy with hy | hy
            · simpa using hTB y hy
            · subst hy; simpa using hb) fun y hy => by simp [(hT y).mpr hy]
          rw [this]
          exact hn
        · refine hn (hν s (setOf (held s ++ [l])) x hr (fun y hy => ?_) (by simpa using hb) q)
          have hy : y ∈ held s ++ [l] := by simpa using hy
          exact ⟨(bpos y hy).1, lost ν hν y hy⟩
      · have hxl : x ≠ l := fun e => hb (by simp [e])
        rw [if_neg hxl] at h2
        have hxh : x ∉ held s := fun q => hb (List.mem_append_left _ q)
        obtain ⟨d1, d2⟩ := d.dead x k s h1 h2 h3 hxh
        refine ⟨fun q => ?_, d2⟩
        -- U: all together
        have hU : x ∉ ChL V s (fun y => decide (y ∈ held s ++ [l] ∨ y = x)) := fun q2 => d1 (Ch_sub ok hr (fun y hy => by
          have hy : y ∈ held s ∨ y = x := by simpa using hy
          rcases hy with hy | hy
          · simp [hy]
          · simp [hy]) q2 (by simp))
        have e1 : ChL V s (setOf (held s ++ [l])) = ChL V s (fun y => decide (y ∈ held s ++ [l] ∨ y = x)) := Ch_irc (fun y hy => by
          have hy : y ∈ held s ++ [l] := by simpa using hy
          simp [hy]) fun y hy => by
          have h5 := (Ch_in hy).2
          have h5 : y ∈ held s ++ [l] ∨ y = x := by simpa using h5
          rcases h5 with h5 | h5
          · simpa using h5
          · subst h5; exact (hU hy).elim
        have e2 : ChL V s (fun y => decide (y ∈ takenL V s (setOf (held s ++ [l])) ∨ y = x)) = ChL V s (fun y => decide (y ∈ held s ++ [l] ∨ y = x)) := Ch_irc (fun y hy => by
          have hy : y ∈ takenL V s (setOf (held s ++ [l])) ∨ y = x := by simpa using hy
          rcases hy with hy | hy
          · have := hTB y hy
            simp [this]
          · simp [hy]) fun y hy => by
          rw [← e1] at hy
          simp [(hT y).mpr hy]
        rw [e2] at q
        exact hU q
    · rw [if_neg e] at h4 ⊢
      by_cases hxl : x = l
      · subst hxl
        rw [if_pos rfl] at h2
        have : k ≠ at' x := fun q => by
          rw [q, hr0] at h3
          cases h3
          exact e rfl
        exact d.dead x k s h1 (by omega) h3 (by assumption)
      · rw [if_neg hxl] at h2
        exact d.dead x k s h1 h2 h3 h4
end K92
set_option maxRecDepth 100000
set_option maxHeartbeats 2000000
/-! M3: stable outcomes, plain. -/
namespace K92
variable [DL.TabC]
open PySem PySem.Spec PyProof.Rows L2 RZ DL M90
theorem mem_memb {o : List (Option Nat)} {r x : Nat} : x ∈ memb o r ↔ oat o x = some r := by
  unfold memb
  simp only [List.mem_filter, List.mem_range, decide_eq_true_eq]
  refine ⟨fun h => h.2, fun h => ⟨?_, h⟩⟩
  rcases Nat.lt_or_ge x o.length with q | q
  · exact q
  · simp [oat, q] at h
/-- a stable outcome, in short -/
structure StabP (V : PL) (ν : Nat → Option Nat) : Prop where
  ir : ∀ l r, ν l = some r → l < V.lefts.length ∧ r ∈ row V.lefts l ∧ l ∈ ChL V r (fun y => decide (ν y = some r))
  nb : ∀ l r, l < V.lefts.length → r ∈ row V.lefts l → abB (row V.lefts l) r (ν l) = true → l ∉ ChL V r (fun y => decide (ν y = some r ∨ y = l))
theorem row_lt {V : PL} (ok : V.Ok) {l r : Nat} (h : r ∈ row V.lefts l) : l < V.lefts.length ∧ r < V.rights.length := by
  have hl : l < V.lefts.length := by
    rcases Nat.lt_or_ge l V.lefts.length with q | q
    · exact q
    · rw [row_out q] at h; simp at h
  exact ⟨hl, ok.sd.2.2 _ (row_mem hl) r h⟩
theorem core_of {V : PL} (ok : V.Ok) {ν : Nat → Option Nat} (st : StabP V ν) : Core V ν := fun r A l0 hr hA h0 hν => by
  apply Classical.byContradiction
  intro hn
  have hU : l0 ∉ ChL V r (fun y => A y || decide (ν y = some r)) := fun q => hn (Ch_sub ok hr (fun x hx => by simp [hx]) q h0)
  by_cases hall : ∀ x, x ∈ ChL V r (fun y => A y || decide (ν y = some r)) → ν x = some r
  · have e : ChL V r (fun y => decide (ν y = some r)) = ChL V r (fun y => A y || decide (ν y = some r)) := Ch_irc (fun x hx => by
      have hx : ν x = some r := by simpa using hx
      simp [hx]) fun x hx => by simpa using hall x hx
    exact hU (e ▸ (st.ir l0 r hν).2.2)
  · have ⟨x, hx⟩ := Classical.not_forall.mp hall
    rw [Classical.not_imp] at hx
    obtain ⟨hx1, hx2⟩ := hx
    have hxA : A x = true := by
      have := (Ch_in hx1).2
      simpa [hx2] using this
    obtain ⟨a1, a2, a3⟩ := hA x hxA
    rcases a3 with a3 | a3
    · exact hx2 a3
    · refine st.nb x r a1 a2 a3 (Ch_sub ok hr (fun y hy => ?_) hx1 (by simp))
      have hy : ν y = some r ∨ y = x := by simpa using hy
      rcases hy with hy | hy
      · simp [hy]
      · subst hy; simp [hxA]
theorem stab_of {V : PL} (ok : V.Ok) {o : List (Option Nat)} (io : IsOut V o) (nb : ∀ l r, ¬ Blk V o l r) : StabP V (oat o) where
  ir := fun l r h => by
    have hl : l < o.length := by
      rcases Nat.lt_or_ge l o.length with q | q
      · exact q
      · simp [oat, q] at h
    obtain ⟨h1, h2⟩ := io.fit l r h (by rw [← io.len]; exact hl)
    refine ⟨by rw [← io.len]; exact hl, (fitB_iff.mp h2).1, ?_⟩
    have h3 : l ∈ takenL V r (fun l => decide (l ∈ memb o r)) := by rw [io.tak r h1]; exact mem_memb.mpr h
    have h4 := (mem_takenL ok h1).mp h3
    have e : (fun l => decide (l ∈ memb o r)) = fun y => decide (oat o y = some r) := by
      funext y
      exact decide_eq_decide.mpr mem_memb
    rw [e] at h4
    exact h4
  nb := fun l r h1 h2 h3 h4 => by
    have e : (fun y => decide (y ∈ memb o r ++ [l])) = fun y => decide (oat o y = some r ∨ y = l) := by
      funext y
      apply decide_eq_decide.mpr
      rw [List.mem_append, mem_memb, List.mem_singleton]
    refine nb l r ⟨h1, h2, fitB_iff.mpr ⟨h2, (Ch_in h4).1⟩, fun q => ?_, h3, by rw [e]; exact h4⟩
    rw [q] at h3
    simp [abB] at h3
/-- best for all lefts among those that are never refused -/
def BestP (V : PL) (o : List (Option Nat)) : Prop := ∀ ν, Core V ν → ∀ l s, l < V.lefts.length → ν l = some s → s ∈ row V.lefts l → ∃ r, oat o l = some r ∧ ixo (row V.lefts l) r ≤ ixo (row V.lefts l) s
theorem DAI.done {V : PL} (ok : V.Ok) {at' : Nat → Nat} {held : Nat → List Nat} (d : DAI V at' held []) {o : List (Option Nat)} (ho : o.length = V.lefts.length) (hoh : ∀ l r, oat o l = some r ↔ l ∈ held r) :
    IsOut V o ∧ (∀ l r, ¬ Blk V o l r) ∧ BestP V o := by
  have hm : ∀ r, (fun y => decide (y ∈ memb o r)) = setOf (held r) := fun r => by
    funext y
    exact decide_eq_decide.mpr (mem_memb.trans (hoh y r))
  refine ⟨⟨ho, fun l r h hl => ?_, fun r hr => ?_⟩, fun l r hB => ?_, fun ν hν l s hl hs hrow => ?_⟩
  · have h1 := (hoh l r).mp h
    obtain ⟨_, _, _, h4⟩ := d.hat r l h1
    have hrow := List.mem_of_getElem? h4
    have hr := (row_lt ok hrow).2
    exact ⟨hr, fitB_iff.mpr ⟨hrow, (Ch_in ((d.fix r hr l).mp h1)).1⟩⟩
  · rw [hm]
    unfold takenL memb asc
    rw [ho]
    apply List.filter_congr
    intro x hx
    apply decide_eq_decide.mpr
    rw [hoh]
    exact (d.fix r hr x).symm
  · obtain ⟨h1, h2, h3, h4, h5, h6⟩ := hB
    have hrow := ok.sd.1.2.2 _ (row_mem h1)
    have hk := get_ixo h2
    have hkat : ixo (row V.lefts l) r < at' l := by
      cases e : oat o l with
      | none =>
        have hne : ¬ at' l < (row V.lefts l).length := fun q => by
          obtain ⟨s, hs⟩ := d.all l h1 (by simp) q
          have := (hoh l s).mpr hs
          rw [e] at this
          cases this
        have := (List.getElem?_eq_some_iff.mp hk).1
        omega
      | some s =>
        rw [e] at h5
        have h5 : decide (ixo (row V.lefts l) r < ixo (row V.lefts l) s) = true := h5
        rw [decide_eq_true_eq] at h5
        obtain ⟨_, _, p1, p2⟩ := d.hat s l ((hoh l s).mp e)
        rw [idx_at hrow.1 p2] at h5
        omega
    refine (d.dead l _ r h1 hkat hk fun q => h4 ((hoh l r).mpr q)).1 ?_
    have e : (fun y => decide (y ∈ memb o r ++ [l])) = fun y => decide (y ∈ held r ∨ y = l) := by
      funext y
      apply decide_eq_decide.mpr
      rw [List.mem_append, mem_memb, hoh, List.mem_singleton]
    rw [← e]
    exact h6
  · have hnd := (ok.sd.1.2.2 _ (row_mem hl)).1
    have hk := get_ixo hrow
    have live : ixo (row V.lefts l) s < at' l → l ∈ held s := fun q => by
      apply Classical.byContradiction
      intro hn
      exact (d.dead l _ s hl q hk hn).2 ν hν hs
    cases e : oat o l with
    | none =>
      have hne : ¬ at' l < (row V.lefts l).length := fun q => by
        obtain ⟨t, ht⟩ := d.all l hl (by simp) q
        have := (hoh l t).mpr ht
        rw [e] at this
        cases this
      have h9 := (List.getElem?_eq_some_iff.mp hk).1
      have := (hoh l s).mpr (live (by omega))
      rw [e] at this
      cases this
    | some r =>
      refine ⟨r, rfl, ?_⟩
      obtain ⟨_, _, p1, p2⟩ := d.hat r l ((hoh l r).mp e)
      rw [idx_at hnd p2]
      rcases Nat.lt_or_ge (ixo (row V.lefts l) s) (at' l) with q | q
      · have := (hoh l s).mpr (live q)
        rw [e] at this
        cases this
        rw [idx_at hnd p2]
        exact Nat.le_refl _
      · omega
end K92
set_option maxRecDepth 100000
set_option maxHeartbeats 1000000
namespace K92
open PySem PySem.Spec PyProof.Rows L2 RZ DL LamX
open C8 (call_isC pe_gc InsC)
open M90
variable [TabC]
def tot (V : PL) (ats : List Nat) : Nat := ((List.range V.lefts.length).map fun x => (row V.lefts x).length - at0 ats x).sum
theorem sum_set {f g : Nat → Nat} {n x : Nat} (hx : x < n) (h1 : f x = g x + 1) (h2 : ∀ y, y ≠ x → f y = g y) : ((List.range n).map f).sum = ((List.range n).map g).sum + 1 := by
  induction n with
  | zero => omega
  | succ n ih =>
    rw [List.range_succ, List.map_append, List.map_append, List.sum_append, List.sum_append]
    simp only [List.map_cons, List.map_nil, List.sum_cons, List.sum_nil]
    by_cases e : x = n
    · subst e
      have : (List.range x).map f = (List.range x).map g := List.map_congr_left fun y hy => h2 y (by have := List.mem_range.mp hy; omega)
      rw [this, h1]
      omega
    · have := ih (by omega)
      rw [this, h2 n (fun h => e h.symm)]
      omega
theorem sum_le {f : Nat → Nat} {n c : Nat} (h : ∀ x, x < n → f x ≤ c) : ((List.range n).map f).sum ≤ n * c := by
  induction n with
  | zero => simp
  | succ n ih =>
    rw [List.range_succ, List.map_append, List.sum_append]
    simp only [List.map_cons, List.map_nil, List.sum_cons, List.sum_nil]
    have := ih fun x hx => h x (by omega)
    have := h n (by omega)
    have e : (n + 1) * c = n * c + c := Nat.succ_mul _ _
    omega
theorem nodup_lt {W : List Nat} {n : Nat} (h : W.Nodup) (hl : ∀ x ∈ W, x < n) : W.length ≤ n := by
  have := List.Nodup.length_le_of_subset h (l₂ := List.range n) fun x hx => List.mem_range.mpr (hl x hx)
  simpa using this
theorem tot_set {V : PL} {ats : List Nat} {l : Nat} (hl : l < V.lefts.length) (hal : l < ats.length) (h : at0 ats l < (row V.lefts l).length) : tot V ats = tot V (ats.set l (at0 ats l + 1)) + 1 := by
  unfold tot
  refine sum_set hl ?_ fun y hy => ?_
  · show _ = (row V.lefts l).length - at0 (ats.set l (at0 ats l + 1)) l + 1
    rw [at0_set_same hal]
    omega
  · show _ = (row V.lefts y).length - at0 (ats.set l (at0 ats l + 1)) y
    rw [at0_set_ne hy]
theorem row_set_same {ls : List (List Nat)} {a : Nat} {v : List Nat} (h : a < ls.length) : row (ls.set a v) a = v := by simp [row, h]
theorem row_set_ne {ls : List (List Nat)} {a b : Nat} {v : List Nat} (h : b ≠ a) : row (ls.set a v) b = row ls b := by simp [row, List.getElem?_set_ne (Ne.symm h)]
theorem fIx_held {h : List (List Nat)} {a : Nat} {P : Dat → Prop} (hl : a < h.length) : fIx (heldD h) (nD a) P = P (.lst ((row h a).map nD)) := by
  have : atI (h.map fun x => Dat.lst (x.map nD)) ((a : Nat) : Int) = some (.lst ((row h a).map nD)) := by
    apply atI_nat
    simp [hl, row]
  show (∃ d, atI (h.map fun x => Dat.lst (x.map nD)) ((a : Nat) : Int) = some d ∧ P d) = _
  rw [this, ex1]
def bo_Iv (C : Addr) (V : PL) (m : Nat) (ε : Ev) : Prop := ∃ (hs : List (List Nat)) (ats W : List Nat) (x4 x5 x6 : Sl), ε = [Sl.val (Dat.obj C (fsP V)), Sl.own (heldD hs), Sl.own (.lst (ats.map nD)), Sl.own (.lst (W.map nD)), x4, x5, x6, Sl.off, Sl.off] ∧
  hs.length = V.rights.length ∧ ats.length = V.lefts.length ∧ DAI V (at0 ats) (row hs) W ∧ m = tot V ats * 21 + W.length
def Z_best_of (C : Addr) : List Dat → (Dat → Prop) → Prop := fun ds P => ∃ (V : PL), ds = [pPl C V] ∧ V.Ok ∧ ∀ o, IsOut V o → (∀ l r, ¬ Blk V o l r) → BestP V o → P (outD o)
def Rf (ks : List (List Key × Dat)) (l r : Nat) : Bool := (lookD ks [.inl (l : Int), .inl (r : Int)]).isSome
def opn (V : PL) (ks : List (List Key × Dat)) (r : Nat) : List Nat := (row V.rights r).filter fun l => fitB V.lefts V.rights l r && !Rf ks l r
def offs (V : PL) (ks : List (List Key × Dat)) : List (List Nat) := (List.range V.rights.length).map fun r => takenL V r fun l => decide (l ∈ opn V ks r)
@[simp] theorem keyD_nD {a : Nat} : keyD (nD a) = some (.inl (a : Int)) := rfl
theorem keys2 {a b : Nat} : [nD a, nD b].mapM keyD = some [.inl (a : Int), .inl (b : Int)] := by rfl
def of_Iv (C : Addr) (V : PL) (ks : List (List Key × Dat)) (i : Nat) (ε : Ev) : Prop := ∃ x3 x4 x5 x6 : Sl, ε = [Sl.val (Dat.obj C (fsP V)), Sl.val (.dtt ks), Sl.own (heldD ((offs V ks).take i)), x3, x4, x5, x6]
def Z_offers_of (C : Addr) : List Dat → (Dat → Prop) → Prop := fun ds P => ∃ (V : PL) (ks : List (List Key × Dat)), ds = [pPl C V, .dtt ks] ∧ V.Ok ∧ P (heldD (offs V ks))
end K92
set_option maxRecDepth 100000
set_option maxHeartbeats 2000000
/-! M4: the rights offer, plain. -/
namespace K92
variable [DL.TabC]
open PySem PySem.Spec PyProof.Rows L2 RZ DL M90
def WorstP (V : PL) (o : List (Option Nat)) : Prop := ∀ ν, StabP V ν → ∀ l r, oat o l = some r → ∃ s, ν l = some s ∧ ixo (row V.lefts l) s ≤ ixo (row V.lefts l) r
/-- whom a right is open to, by a refusal predicate -/
def opR (V : PL) (R : Nat → Nat → Prop) [∀ l r, Decidable (R l r)] (r : Nat) : Nat → Bool := fun l => decide (l ∈ row V.rights r) && decide (r ∈ row V.lefts l) && !decide (R l r)
structure RPI (V : PL) (R : Nat → Nat → Prop) [∀ l r, Decidable (R l r)] : Prop where
  safe : ∀ l r, R l r → ∀ ν, StabP V ν → ∃ s, ν l = some s ∧ ixo (row V.lefts l) s < ixo (row V.lefts l) r
  back : ∀ l r, R l r → ∃ s, ixo (row V.lefts l) s < ixo (row V.lefts l) r ∧ l ∈ ChL V s (opR V R s)
section
variable {V : PL} {R R' : Nat → Nat → Prop} [∀ l r, Decidable (R l r)] [∀ l r, Decidable (R' l r)]
theorem opR_iff {r l : Nat} : opR V R r l = true ↔ l ∈ row V.rights r ∧ r ∈ row V.lefts l ∧ ¬ R l r := by
  simp [opR, and_assoc]
/-- an offer is at most a stable partner's worth -/
theorem RPI.offer (ok : V.Ok) (d : RPI V R) {l r : Nat} (h : l ∈ ChL V r (opR V R r)) : ∀ ν, StabP V ν → ∃ s, ν l = some s ∧ ixo (row V.lefts l) s ≤ ixo (row V.lefts l) r := fun ν st => by
  obtain ⟨h1, h2, h3⟩ := opR_iff.mp (Ch_in h).2
  obtain ⟨hl, hr⟩ := row_lt ok h2
  apply Classical.byContradiction
  intro hn
  have hab : abB (row V.lefts l) r (ν l) = true := by
    cases e : ν l with
    | none => rfl
    | some s =>
      show decide (ixo (row V.lefts l) r < ixo (row V.lefts l) s) = true
      rw [decide_eq_true_eq]
      apply Classical.byContradiction
      intro q
      exact hn ⟨s, e, by omega⟩
  refine st.nb l r hl h2 hab (Ch_sub ok hr (fun y hy => ?_) h (by simp))
  have hy : ν y = some r ∨ y = l := by simpa using hy
  rcases hy with hy | hy
  · obtain ⟨g1, g2, g3⟩ := st.ir y r hy
    refine opR_iff.mpr ⟨(Ch_in g3).1, g2, fun q => ?_⟩
    obtain ⟨s, e1, e2⟩ := d.safe y r q ν st
    rw [hy] at e1
    cases e1
    omega
  · subst hy
    exact (Ch_in h).2
/-- who is offered a left, from the left's best on -/
def mine (V : PL) (R : Nat → Nat → Prop) [∀ l r, Decidable (R l r)] (l : Nat) : List Nat := (row V.lefts l).filter fun r => decide (l ∈ ChL V r (opR V R r))
theorem mine_ixo (ok : V.Ok) {l : Nat} (hl : l < V.lefts.length) {a : Nat} {t : List Nat} (h : mine V R l = a :: t) : (∀ r ∈ t, ixo (row V.lefts l) a < ixo (row V.lefts l) r) ∧ a ∉ t := by
  have hnd := (ok.sd.1.2.2 _ (row_mem hl)).1
  have hs : (a :: t).Sublist (row V.lefts l) := by rw [← h]; exact List.filter_sublist
  have hn2 := hs.nodup hnd
  rw [List.nodup_cons] at hn2
  refine ⟨fun r hr => ?_, hn2.1⟩
  have h2 : [a, r].Sublist (row V.lefts l) := ((List.singleton_sublist.mpr hr).cons₂ a).trans hs
  clear h hs hn2
  generalize row V.lefts l = xs at *
  induction xs with
  | nil => simp at h2
  | cons x xs ih =>
    rw [List.nodup_cons] at hnd
    cases h2 with
    | cons _ h2 =>
      have hxa : x ≠ a := fun e => hnd.1 (e ▸ h2.subset (by simp))
      have hxr : x ≠ r := fun e => hnd.1 (e ▸ h2.subset (by simp))
      have := ih hnd.2 h2
      unfold ixo at this ⊢
      simp only [List.idxOf_cons, beq_eq_false_iff_ne.mpr hxa, beq_eq_false_iff_ne.mpr hxr, cond_false]
      omega
    | cons_cons _ h2 =>
      have hrx : r ∈ xs := List.singleton_sublist.mp h2
      have hxr : a ≠ r := fun e => hnd.1 (e ▸ hrx)
      unfold ixo
      simp only [List.idxOf_cons, beq_eq_false_iff_ne.mpr hxr, cond_false, beq_self_eq_true, cond_true]
      omega
theorem mem_mine {l r : Nat} (ok : V.Ok) : r ∈ mine V R l ↔ l ∈ ChL V r (opR V R r) := by
  unfold mine
  rw [List.mem_filter, decide_eq_true_eq]
  exact ⟨fun h => h.2, fun h => ⟨(opR_iff.mp (Ch_in h).2).2.1, h⟩⟩
theorem RPI.turn (ok : V.Ok) (d : RPI V R) (h : ∀ l r, R' l r ↔ R l r ∨ r ∈ (mine V R l).tail) : RPI V R' := by
  have key : ∀ l r, R' l r → ∃ a, ixo (row V.lefts l) a < ixo (row V.lefts l) r ∧ l ∈ ChL V a (opR V R a) ∧ ¬ R' l a := fun l r hR => by
    have hne : mine V R l ≠ [] ∧ ∀ a t, mine V R l = a :: t → ixo (row V.lefts l) a < ixo (row V.lefts l) r := by
      rcases (h l r).mp hR with q | q
      · obtain ⟨s, h1, h2⟩ := d.back l r q
        have hs := (mem_mine ok).mpr h2
        refine ⟨fun e => by rw [e] at hs; simp at hs, fun a t e => ?_⟩
        rw [e] at hs
        rcases List.mem_cons.mp hs with e2 | hs
        · subst e2; exact h1
        · have hl := (row_lt ok (opR_iff.mp (Ch_in h2).2).2.1).1
          have := (mine_ixo ok hl e).1 s hs
          omega
      · refine ⟨fun e => by rw [e] at q; simp at q, fun a t e => ?_⟩
        have hr : r ∈ mine V R l := List.mem_of_mem_tail q
        have hl := (row_lt ok (opR_iff.mp (Ch_in ((mem_mine ok).mp hr)).2).2.1).1
        rw [e] at q
        exact (mine_ixo ok hl e).1 r q
    cases e : mine V R l with
    | nil => exact (hne.1 e).elim
    | cons a t =>
      have ha := (mem_mine ok).mp (show a ∈ mine V R l by rw [e]; simp)
      have hl := (row_lt ok (opR_iff.mp (Ch_in ha).2).2.1).1
      refine ⟨a, hne.2 a t e, ha, fun q => ?_⟩
      rcases (h l a).mp q with q | q
      · exact (opR_iff.mp (Ch_in ha).2).2.2 q
      · rw [e] at q
        exact (mine_ixo ok hl e).2 q
  refine ⟨fun l r hR ν st => ?_, fun l r hR => ?_⟩
  · obtain ⟨a, h1, h2, _⟩ := key l r hR
    obtain ⟨s, e1, e2⟩ := d.offer ok h2 ν st
    exact ⟨s, e1, by omega⟩
  · obtain ⟨a, h1, h2, h3⟩ := key l r hR
    obtain ⟨g1, g2, g3⟩ := opR_iff.mp (Ch_in h2).2
    refine ⟨a, h1, Ch_sub ok (row_lt ok g2).2 (fun y hy => ?_) h2 (opR_iff.mpr ⟨g1, g2, h3⟩)⟩
    obtain ⟨q1, q2, q3⟩ := opR_iff.mp hy
    exact opR_iff.mpr ⟨q1, q2, fun q => q3 ((h y a).mpr (.inl q))⟩
theorem RPI.done (ok : V.Ok) (d : RPI V R) (hno : ∀ l, (mine V R l).tail = []) {o : List (Option Nat)} (ho : o.length = V.lefts.length) (hoh : ∀ l, l < V.lefts.length → oat o l = (mine V R l).head?) :
    IsOut V o ∧ (∀ l r, ¬ Blk V o l r) ∧ WorstP V o := by
  have iff : ∀ l r, oat o l = some r ↔ l ∈ ChL V r (opR V R r) := fun l r => by
    rcases Nat.lt_or_ge l V.lefts.length with hl | hl
    · rw [hoh l hl, ← mem_mine ok]
      have := hno l
      cases e : mine V R l with
      | nil => simp
      | cons a t =>
        rw [e] at this
        have ht : t = [] := this
        subst ht
        simp [eq_comm]
    · constructor
      · intro h
        simp [oat, show o.length ≤ l by omega] at h
      · intro h
        have := (row_lt ok (opR_iff.mp (Ch_in h).2).2.1).1
        omega
  have hmb : ∀ r, r < V.rights.length → ChL V r (fun l => decide (l ∈ memb o r)) = ChL V r (opR V R r) := fun r hr => Ch_irc (fun x hx => by
    have := mem_memb.mp (show x ∈ memb o r by simpa using hx)
    exact (Ch_in ((iff x r).mp this)).2) fun x hx => by simpa using mem_memb.mpr ((iff x r).mpr hx)
  refine ⟨⟨ho, fun l r h hl => ?_, fun r hr => ?_⟩, fun l r hB => ?_, fun ν st l r h => d.offer ok ((iff l r).mp h) ν st⟩
  · obtain ⟨h1, h2, h3⟩ := opR_iff.mp (Ch_in ((iff l r).mp h)).2
    exact ⟨(row_lt ok h2).2, fitB_iff.mpr ⟨h2, h1⟩⟩
  · unfold takenL
    rw [hmb r hr]
    unfold memb asc
    rw [ho]
    apply List.filter_congr
    intro x hx
    exact decide_eq_decide.mpr (iff x r).symm
  · obtain ⟨h1, h2, h3, h4, h5, h6⟩ := hB
    have hr := (row_lt ok h2).2
    by_cases hR : R l r
    · obtain ⟨s, q1, q2⟩ := d.back l r hR
      rw [(iff l s).mpr q2] at h5
      have h5 : decide (ixo (row V.lefts l) r < ixo (row V.lefts l) s) = true := h5
      rw [decide_eq_true_eq] at h5
      omega
    · have hop : opR V R r l = true := opR_iff.mpr ⟨(Ch_in h6).1, h2, hR⟩
      have : ChL V r (fun x => decide (x ∈ memb o r ++ [l])) = ChL V r (opR V R r) := Ch_irc (fun x hx => by
        have hx : x ∈ memb o r ++ [l] := by simpa using hx
        rcases List.mem_append.mp hx with hx | hx
        · exact (Ch_in ((iff x r).mp (mem_memb.mp hx))).2
        · rw [List.mem_singleton.mp hx]; exact hop) fun x hx => by
          have := mem_memb.mpr ((iff x r).mpr hx)
          simp [this]
      rw [this] at h6
      exact h4 ((iff l r).mpr h6)
end
theorem RPI.none (V : PL) : RPI V (fun _ _ => False) := ⟨fun _ _ h => h.elim, fun _ _ h => h.elim⟩
end K92
set_option maxRecDepth 100000
set_option maxHeartbeats 1000000
namespace K92
open PySem PySem.Spec PyProof.Rows L2 RZ DL LamX
open C8 (call_isC pe_gc InsC)
open M90
variable [TabC]
abbrev R0 (ks : List (List Key × Dat)) (l r : Nat) : Prop := Rf ks l r = true
def cnt (V : PL) (ks : List (List Key × Dat)) : Nat := ((List.range V.lefts.length).map fun l => ((List.range V.rights.length).map fun r => if Rf ks l r = true then 0 else 1).sum).sum
theorem opn_opR {V : PL} {ks : List (List Key × Dat)} {r : Nat} : (fun l => decide (l ∈ opn V ks r)) = opR V (R0 ks) r := by
  funext l
  rw [Bool.eq_iff_iff, opR_iff, decide_eq_true_eq]
  unfold opn
  rw [List.mem_filter, Bool.and_eq_true, fitB_iff]
  exact ⟨fun h => ⟨h.1, h.2.1.1, by simpa using h.2.2⟩, fun h => ⟨h.1, ⟨h.2.1, h.1⟩, by simpa using h.2.2⟩⟩
theorem offs_row {V : PL} {ks : List (List Key × Dat)} {r l : Nat} (ok : V.Ok) (hr : r < V.rights.length) : l ∈ row (offs V ks) r ↔ l ∈ ChL V r (opR V (R0 ks) r) := by
  have : row (offs V ks) r = takenL V r fun l => decide (l ∈ opn V ks r) := by simp [row, offs, hr]
  rw [this, mem_takenL ok hr, opn_opR]
theorem offs_len {V : PL} {ks : List (List Key × Dat)} : (offs V ks).length = V.rights.length := by simp [offs]
theorem key_any {ks : List (List Key × Dat)} {k : List Key} (h : (lookD ks k).isSome = false) : (ks.any fun kv => decide (kv.1 = k)) = false := by
  induction ks with
  | nil => rfl
  | cons a ks ih =>
    rw [List.any_cons]
    by_cases e : a.1 = k
    · simp [lookD, e] at h
    · have : (lookD ks k).isSome = false := by simpa [lookD, e] using h
      rw [ih this]
      simp [e]
theorem put_new {ks : List (List Key × Dat)} {k : List Key} {d : Dat} (h : (lookD ks k).isSome = false) : putD ks k d = ks ++ [(k, d)] := by
  unfold putD
  rw [key_any h]
  rfl
theorem look_app {ks : List (List Key × Dat)} {k k' : List Key} {d : Dat} : (lookD (ks ++ [(k, d)]) k').isSome = ((lookD ks k').isSome || decide (k = k')) := by
  unfold lookD
  rw [List.find?_append]
  cases e : ks.find? fun kv => decide (kv.1 = k') with
  | some v => simp
  | none =>
    by_cases h : k = k'
    · simp [h]
    · simp [h]
theorem Rf_put {ks : List (List Key × Dat)} {l r : Nat} {d : Dat} (h : ¬ R0 ks l r) (a b : Nat) : R0 (putD ks [.inl (l : Int), .inl (r : Int)] d) a b ↔ R0 ks a b ∨ (a = l ∧ b = r) := by
  have h' : (lookD ks [.inl (l : Int), .inl (r : Int)]).isSome = false := by
    cases e : (lookD ks [.inl (l : Int), .inl (r : Int)]).isSome with
    | false => rfl
    | true => exact (h e).elim
  unfold R0 Rf
  rw [put_new h', look_app, Bool.or_eq_true, decide_eq_true_eq]
  have : ([.inl (l : Int), .inl (r : Int)] : List Key) = [.inl (a : Int), .inl (b : Int)] ↔ a = l ∧ b = r := by
    constructor
    · intro q
      simp only [List.cons.injEq, Sum.inl.injEq, and_true] at q
      omega
    · rintro ⟨rfl, rfl⟩; rfl
  rw [this]
theorem cnt_put {V : PL} {ks : List (List Key × Dat)} {l r : Nat} {d : Dat} (hl : l < V.lefts.length) (hr : r < V.rights.length) (h : ¬ R0 ks l r) : cnt V ks = cnt V (putD ks [.inl (l : Int), .inl (r : Int)] d) + 1 := by
  have hp := Rf_put (d := d) h
  generalize putD ks [.inl (l : Int), .inl (r : Int)] d = ks' at *
  have same : ∀ a b, ¬ (a = l ∧ b = r) → (if Rf ks a b = true then 0 else 1) = (if Rf ks' a b = true then 0 else 1) := fun a b hab => by
    have := hp a b
    by_cases q : Rf ks a b = true
    · rw [if_pos q, if_pos (this.mpr (.inl q))]
    · rw [if_neg q, if_neg (fun q2 => (this.mp q2).elim q hab)]
  unfold cnt
  refine sum_set hl (sum_set hr ?_ fun b hb => same l b fun q => hb q.2) fun a ha => ?_
  · show (if Rf ks l r = true then 0 else 1) = (if Rf ks' l r = true then 0 else 1) + 1
    rw [if_neg h, if_pos ((hp l r).mpr (.inr ⟨rfl, rfl⟩))]
  · show ((List.range V.rights.length).map fun r => if Rf ks a r = true then 0 else 1).sum = ((List.range V.rights.length).map fun r => if Rf ks' a r = true then 0 else 1).sum
    congr 1
    exact List.map_congr_left fun b _ => same a b fun q => ha q.1
theorem put_len {ks : List (List Key × Dat)} {l r : Nat} {d : Dat} (h : ¬ R0 ks l r) : (putD ks [.inl (l : Int), .inl (r : Int)] d).length = ks.length + 1 := by
  have h' : (lookD ks [.inl (l : Int), .inl (r : Int)]).isSome = false := by
    cases e : (lookD ks [.inl (l : Int), .inl (r : Int)]).isSome with
    | false => rfl
    | true => exact (h e).elim
  rw [put_new h']
  simp
theorem sum_c {c : Nat} : ∀ n : Nat, ((List.range n).map fun _ => c).sum = n * c
  | 0 => by simp
  | n + 1 => by
    rw [List.range_succ, List.map_append, List.sum_append, sum_c n]
    simp [Nat.succ_mul]
theorem noDs_nD : ∀ xs : List Nat, noDs (xs.map nD) = true
  | [] => rfl
  | x :: xs => by rw [List.map_cons, noDs, noDs_nD xs]; rfl
theorem noD_held : ∀ h : List (List Nat), noD (heldD h) = true := fun h => by
  show noDs (h.map fun x => Dat.lst (x.map nD)) = true
  induction h with
  | nil => rfl
  | cons x h ih =>
    rw [List.map_cons, noDs, ih]
    show (noDs (x.map nD) && true) = true
    rw [noDs_nD]
    rfl
theorem cut1 {α : Type} (xs : List α) : cut xs (some 1) none = xs.tail := by
  unfold cut
  rw [show HT.sIx xs.length 0 (some 1) = min 1 xs.length from HT.sIx_nat xs.length 0 1, HT.sIx_none]
  cases xs with
  | nil => rfl
  | cons x r =>
    rw [show min 1 (x :: r).length = 1 by rw [List.length_cons]; omega]
    simp
def woFin (V : PL) (x4 : Sl) : Prop := ∃ o, x4 = Sl.own (.lst (o.map oD)) ∧ IsOut V o ∧ (∀ l r, ¬ Blk V o l r) ∧ WorstP V o
def wo_Iv (C : Addr) (V : PL) (m : Nat) (ε : Ev) : Prop := ∃ (ks : List (List Key × Dat)) (b : Bool) (x3 x4 x5 x6 x7 x8 : Sl), ε = [Sl.val (Dat.obj C (fsP V)), Sl.own (.dtt ks), Sl.val (.bl b), x3, x4, x5, x6, x7, x8] ∧ ks.length + cnt V ks = V.lefts.length * V.rights.length ∧
  RPI V (R0 ks) ∧ (b = true → m = cnt V ks + 1) ∧ (b = false → m = 0 ∧ woFin V x4)
def wo_Iw (C : Addr) (V : PL) (k0 : List (List Key × Dat)) (i : Nat) (ε : Ev) : Prop := ∃ (ks : List (List Key × Dat)) (b : Bool) (kp : List (Option Nat)) (x5 x6 x7 x8 : Sl), ε = [Sl.val (Dat.obj C (fsP V)), Sl.own (.dtt ks), Sl.val (.bl b), Sl.val (heldD (offs V k0)), Sl.own (.lst (kp.map oD)), x5, x6, x7, x8] ∧ kp.length = V.lefts.length ∧
  (∀ l, oat kp l = if l < i then (mine V (R0 k0) l).head? else none) ∧ (∀ l r, R0 ks l r ↔ R0 k0 l r ∨ (l < i ∧ r ∈ (mine V (R0 k0) l).tail)) ∧ ks.length + cnt V ks = V.lefts.length * V.rights.length ∧ (b = false → ∀ l, l < i → (mine V (R0 k0) l).tail = []) ∧ (b = true → cnt V ks < cnt V k0) ∧ cnt V ks ≤ cnt V k0
def wo_Ix (C : Addr) (V : PL) (k0 : List (List Key × Dat)) (kp : List (Option Nat)) (i j : Nat) (ε : Ev) : Prop := ∃ (ks : List (List Key × Dat)) (b : Bool) (x8 : Sl), ε = [Sl.val (Dat.obj C (fsP V)), Sl.own (.dtt ks), Sl.val (.bl b), Sl.val (heldD (offs V k0)), Sl.own (.lst (kp.map oD)), Sl.val (nD i), Sl.val (rk (row V.lefts i)), Sl.val (.lst ((mine V (R0 k0) i).map nD)), x8] ∧
  (∀ l r, R0 ks l r ↔ R0 k0 l r ∨ (l < i ∧ r ∈ (mine V (R0 k0) l).tail) ∨ (l = i ∧ r ∈ (mine V (R0 k0) i).tail.take j)) ∧ ks.length + cnt V ks = V.lefts.length * V.rights.length ∧ (b = false → (∀ l, l < i → (mine V (R0 k0) l).tail = []) ∧ j = 0) ∧ (b = true → cnt V ks < cnt V k0) ∧ cnt V ks ≤ cnt V k0
theorem mine_len {V : PL} {ks : List (List Key × Dat)} {i : Nat} (ok : V.Ok) (hi : i < V.lefts.length) : (mine V (R0 ks) i).length ≤ 20 := by
  have h1 : (mine V (R0 ks) i).length ≤ (row V.lefts i).length := List.length_filter_le _ _
  have h2 := (ok.sd.1.2.2 _ (row_mem hi)).len
  omega
theorem mine_new {V : PL} {ks : List (List Key × Dat)} {l r : Nat} (ok : V.Ok) (h : r ∈ mine V (R0 ks) l) : ¬ R0 ks l r ∧ r < V.rights.length := by
  obtain ⟨h1, h2, h3⟩ := opR_iff.mp (Ch_in ((mem_mine ok).mp h)).2
  exact ⟨h3, (row_lt ok h2).2⟩
theorem mine_nd {V : PL} {ks : List (List Key × Dat)} {i : Nat} (ok : V.Ok) (hi : i < V.lefts.length) : (mine V (R0 ks) i).tail.Nodup :=
  (List.tail_sublist _).nodup (List.Pairwise.filter _ (ok.sd.1.2.2 _ (row_mem hi)).1)
theorem wo_in {C : Addr} {V : PL} (ok : V.Ok) {k0 ks1 : List (List Key × Dat)} {b : Bool} {kp : List (Option Nat)} {i : Nat} {x8 : Sl} {E : DE} (hi : i < V.lefts.length) (hE : ∀ ε, wo_Iw C V k0 (i + 1) ε → E.nx ε)
    (hkl : kp.length = V.lefts.length) (hkp : ∀ l, oat kp l = if l < i + 1 then (mine V (R0 k0) l).head? else none) (hRf : ∀ l r, R0 ks1 l r ↔ R0 k0 l r ∨ (l < i ∧ r ∈ (mine V (R0 k0) l).tail)) (hkc : ks1.length + cnt V ks1 = V.lefts.length * V.rights.length)
    (hb3 : b = false → ∀ l, l < i → (mine V (R0 k0) l).tail = []) (hb4 : b = true → cnt V ks1 < cnt V k0) (hle : cnt V ks1 ≤ cnt V k0) (hnm : V.lefts.length * V.rights.length ≤ 400) :
    sFor 1024 (iL (dSl (dVar 7) (oSome (dC (Dat.int 1))) oNone)) (gN 8) (sSeq (sPutT 1 (aCons (dVar 5) (aCons (dVar 8) aNil)) (dC (Dat.bl true))) (sSeq (sAsg 2 (dC (Dat.bl true))) sNext)) E
      [Sl.val (Dat.obj C (fsP V)), Sl.own (Dat.dtt ks1), Sl.val (Dat.bl b), Sl.val (heldD (offs V k0)), Sl.own (Dat.lst (kp.map oD)), Sl.val (nD i), Sl.val (rk (row V.lefts i)), Sl.val (.lst ((mine V (R0 k0) i).map nD)), x8] := by
  have hml := mine_len (ks := k0) ok hi
  refine for_lst (ds := (mine V (R0 k0) i).tail.map nD) (fun P h => ?_) (by simp; omega) (wo_Ix C V k0 kp i) ⟨ks1, b, x8, rfl, fun l r => by simp [hRf l r], hkc, fun h => ⟨hb3 h, rfl⟩, hb4, hle⟩ (fun j d ε hd ⟨ks, b, x8, hε, hRf, hkc, hb3, hb4, hle⟩ => ?_) (fun ε ⟨ks, b, x8, hε, hRf, hkc, hb3, hb4, hle⟩ => hE ε ?_)
  · simp
    rw [cut1, ← List.map_tail]
    exact h
  · obtain ⟨hj, hj2, rfl⟩ := map_nD_get hd
    subst hε
    generalize at0 (mine V (R0 k0) i).tail j = r at *
    have hrm := List.mem_of_getElem? hj2
    obtain ⟨q1, q2⟩ := mine_new ok (List.mem_of_mem_tail hrm)
    have hnd := mine_nd (ks := k0) ok hi
    have htake : (mine V (R0 k0) i).tail.take (j + 1) = (mine V (R0 k0) i).tail.take j ++ [r] := by rw [List.take_add_one, hj2]; rfl
    have hnt : r ∉ (mine V (R0 k0) i).tail.take j := fun q => by
      have h9 : ((mine V (R0 k0) i).tail.take (j + 1)).Nodup := (List.take_sublist _ _).nodup hnd
      rw [htake] at h9
      exact (nodup_last h9).2 q
    have hnew : ¬ R0 ks i r := fun q => by
      rcases (hRf i r).mp q with q | ⟨q, _⟩ | ⟨_, q⟩
      · exact q1 q
      · omega
      · exact hnt q
    have hc := cnt_put (d := .bl true) hi q2 hnew
    have hl := put_len (d := .bl true) hnew
    simp
    refine ⟨by omega, putD ks [.inl (i : Int), .inl (r : Int)] (.bl true), true, _, rfl, fun a c => ?_, by omega, fun h => (by cases h), fun _ => by omega, by omega⟩
    rw [Rf_put hnew, hRf a c, htake]
    constructor
    · rintro ((h | h | ⟨h1, h2⟩) | ⟨h1, h2⟩)
      · exact .inl h
      · exact .inr (.inl h)
      · exact .inr (.inr ⟨h1, List.mem_append_left _ h2⟩)
      · exact .inr (.inr ⟨h1, by rw [h2]; simp⟩)
    · rintro (h | h | ⟨h1, h2⟩)
      · exact .inl (.inl h)
      · exact .inl (.inr (.inl h))
      · rcases List.mem_append.mp h2 with h2 | h2
        · exact .inl (.inr (.inr ⟨h1, h2⟩))
        · exact .inr ⟨h1, List.mem_singleton.mp h2⟩
  · subst hε
    rw [List.length_map, List.take_length] at hRf
    refine ⟨ks, b, kp, _, _, _, _, rfl, hkl, hkp, fun l r => (hRf l r).trans ?_, hkc, fun h l hl => ?_, hb4, hle⟩
    · constructor
      · rintro (h | ⟨h1, h2⟩ | ⟨h1, h2⟩)
        · exact .inl h
        · exact .inr ⟨by omega, h2⟩
        · subst h1; exact .inr ⟨by omega, h2⟩
      · rintro (h | ⟨h1, h2⟩)
        · exact .inl h
        · by_cases e : l = i
          · subst e; exact .inr (.inr ⟨rfl, h2⟩)
          · exact .inr (.inl ⟨by omega, h2⟩)
    · obtain ⟨h1, h2⟩ := hb3 h
      rw [List.length_map] at h2
      by_cases e : l = i
      · subst e; exact List.eq_nil_of_length_eq_zero h2
      · exact h1 l (by omega)
def Z_worst_of (C : Addr) : List Dat → (Dat → Prop) → Prop := fun ds P => ∃ (V : PL), ds = [pPl C V] ∧ V.Ok ∧ ∀ o, IsOut V o → (∀ l r, ¬ Blk V o l r) → WorstP V o → P (outD o)
end K92
set_option maxRecDepth 100000
set_option maxHeartbeats 2000000
/-! M5: two sides as places with one seat each; both ways round. -/
namespace K92
variable [DL.TabC]
open PySem PySem.Spec PyProof.Rows L2 RZ DL M90
def sPL (A B : List (List Nat)) : PL := ⟨A, B, List.replicate B.length 1, List.replicate A.length 0, List.replicate B.length [20, 20, 20, 20]⟩
theorem sPL_ok {A B : List (List Nat)} (h : SidesOk A B) : (sPL A B).Ok where
  sd := h
  se := ⟨by simp [sPL], fun x hx => by have := List.eq_of_mem_replicate hx; omega⟩
  gr := ⟨by simp [sPL], fun x hx => by have := List.eq_of_mem_replicate hx; omega⟩
  li := ⟨by simp [sPL], fun r hr => by
    have := List.eq_of_mem_replicate hr
    subst this
    simp⟩
theorem sides_swap {A B : List (List Nat)} (h : SidesOk A B) : SidesOk B A := by
  obtain ⟨h1, h2, h3⟩ := h
  have hB := h2.2.1
  refine ⟨⟨h2.1, h2.2.1, fun r hr => ⟨(h2.2.2 r hr).1, fun x hx => ?_, by omega⟩⟩, ⟨h1.1, h1.2.1, fun r hr => ⟨(h1.2.2 r hr).1, fun x hx => h3 r hr x hx, hB⟩⟩, fun r hr x hx => (h2.2.2 r hr).2.1 x hx⟩
  have := (h2.2.2 r hr).2.1 x hx
  have := h1.2.1
  omega
theorem grd_one {gp : Nat → Nat} {lim : Nat → Nat} {S : Nat → Bool} {ρ : List Nat} (hl : ∀ l ∈ ρ, 0 < lim (gp l)) {l : Nat} : l ∈ grd gp ρ 1 lim S ↔ l ∈ ρ ∧ S l = true ∧ ∀ y ∈ ρ, S y = true → ixo ρ l ≤ ixo ρ y := by
  induction ρ with
  | nil => simp [grd]
  | cons a ρ ih =>
    unfold grd
    have ha := hl a (by simp)
    by_cases hS : S a = true
    · rw [if_pos (by simp [hS, ha]), show (1 : Nat) - 1 = 0 from rfl, grd_zero]
      constructor
      · intro h
        have := List.mem_singleton.mp h
        subst this
        refine ⟨by simp, hS, fun y _ _ => ?_⟩
        simp [ixo, List.idxOf_cons]
      · rintro ⟨h1, h2, h3⟩
        have := h3 a (by simp) hS
        have h0 : ixo (a :: ρ) a = 0 := by simp [ixo, List.idxOf_cons]
        by_cases e : a = l
        · simp [e]
        · have : ixo (a :: ρ) l = ixo ρ l + 1 := by simp [ixo, List.idxOf_cons, beq_eq_false_iff_ne.mpr e]
          omega
    · rw [if_neg (by simp [hS]), ih fun l h => hl l (by simp [h])]
      have sh : ∀ y, S y = true → ixo (a :: ρ) y = ixo ρ y + 1 := fun y hy => by
        have e : a ≠ y := fun e => hS (e ▸ hy)
        simp [ixo, List.idxOf_cons, beq_eq_false_iff_ne.mpr e]
      constructor
      · rintro ⟨h1, h2, h3⟩
        refine ⟨by simp [h1], h2, fun y hy hs => ?_⟩
        rw [sh l h2, sh y hs]
        rcases List.mem_cons.mp hy with e | hy
        · subst e; exact (hS hs).elim
        · have := h3 y hy hs; omega
      · rintro ⟨h1, h2, h3⟩
        refine ⟨?_, h2, fun y hy hs => ?_⟩
        · rcases List.mem_cons.mp h1 with e | h1
          · subst e; exact (hS h2).elim
          · exact h1
        · have := h3 y (by simp [hy]) hs
          rw [sh l h2, sh y hs] at this
          omega
section
variable {A B : List (List Nat)}
theorem ChL_one {r l : Nat} {S : Nat → Bool} (h : SidesOk A B) : l ∈ ChL (sPL A B) r S ↔ l ∈ row B r ∧ S l = true ∧ ∀ y ∈ row B r, S y = true → ixo (row B r) l ≤ ixo (row B r) y := by
  rcases Nat.lt_or_ge r B.length with hr | hr
  · have e1 : at0 (sPL A B).seats r = 1 := by simp [sPL, at0, hr]
    have e2 : row (sPL A B).limits r = [20, 20, 20, 20] := by simp [sPL, row, hr]
    show l ∈ grd (at0 (sPL A B).groups) (row B r) (at0 (sPL A B).seats r) (at0 (row (sPL A B).limits r)) S ↔ _
    rw [e1, e2]
    refine grd_one fun x hx => ?_
    have hx := ((h.2.1.2.2 _ (row_mem hr)).2.1 x hx)
    have e3 : at0 (sPL A B).groups x = 0 := by simp [sPL, at0, hx]
    rw [e3]
    decide
  · have e : row B r = [] := row_out hr
    show l ∈ grd (at0 (sPL A B).groups) (row B r) (at0 (sPL A B).seats r) (at0 (row (sPL A B).limits r)) S ↔ _
    rw [e]
    simp [grd]
theorem ixo_inj {xs : List Nat} {a b : Nat} (ha : a ∈ xs) (h : ixo xs a = ixo xs b) : a = b := by
  have h1 := get_ixo ha
  by_cases hb : b ∈ xs
  · have h2 := get_ixo hb
    rw [h, h2] at h1
    exact (Option.some.inj h1).symm
  · rw [h, ixo_out hb] at h1
    simp at h1
theorem stab_one {ν : Nat → Option Nat} (h : SidesOk A B) (st : StabP (sPL A B) ν) :
    (∀ l r, ν l = some r → l < A.length ∧ r ∈ row A l ∧ l ∈ row B r ∧ ∀ y, ν y = some r → y = l) ∧ (∀ l r, l ∈ row B r → r ∈ row A l → abB (row A l) r (ν l) = true → ∃ y, ν y = some r ∧ ixo (row B r) y < ixo (row B r) l) := by
  have one : ∀ l r, ν l = some r → l ∈ row B r ∧ ∀ y ∈ row B r, ν y = some r → ixo (row B r) l ≤ ixo (row B r) y := fun l r hl => by
    obtain ⟨h1, h2, h3⟩ := st.ir l r hl
    rw [ChL_one h] at h3
    exact ⟨h3.1, fun y hy hyr => h3.2.2 y hy (by simpa using hyr)⟩
  refine ⟨fun l r hl => ?_, fun l r h1 h2 h3 => ?_⟩
  · obtain ⟨h1, h2, h3⟩ := st.ir l r hl
    refine ⟨h1, h2, (one l r hl).1, fun y hy => ?_⟩
    have a1 := (one l r hl).2 y (one y r hy).1 hy
    have a2 := (one y r hy).2 l (one l r hl).1 hl
    exact ixo_inj (one y r hy).1 (by omega)
  · have hl : l < A.length := (row_lt (sPL_ok h) (V := sPL A B) h2).1
    have h4 := st.nb l r hl h2 h3
    rw [ChL_one h] at h4
    apply Classical.byContradiction
    intro hn
    refine h4 ⟨h1, by simp, fun y hy hyy => ?_⟩
    have hyy : ν y = some r ∨ y = l := by simpa using hyy
    rcases hyy with q | q
    · apply Classical.byContradiction
      intro q2
      exact hn ⟨y, q, by omega⟩
    · subst q; exact Nat.le_refl _
theorem stab_swap {ν μ : Nat → Option Nat} (h : SidesOk A B) (hi : ∀ l r, ν l = some r ↔ μ r = some l) (st : StabP (sPL A B) ν) : StabP (sPL B A) μ := by
  obtain ⟨s1, s2⟩ := stab_one h st
  refine ⟨fun r l hr => ?_, fun r l hr hl hab hc => ?_⟩
  · obtain ⟨h1, h2, h3, h4⟩ := s1 l r ((hi l r).mpr hr)
    refine ⟨(row_lt (sPL_ok h) (V := sPL A B) h2).2, h3, (ChL_one (sides_swap h)).mpr ⟨h2, by simpa using hr, fun s hs hsl => ?_⟩⟩
    have hsl : μ s = some l := by simpa using hsl
    have : s = r := by
      have q1 := (hi l s).mpr hsl
      rw [(hi l r).mpr hr] at q1
      exact (Option.some.inj q1).symm
    subst this
    exact Nat.le_refl _
  · have hab : abB (row B r) l (μ r) = true := hab
    have hl : l ∈ row B r := hl
    rw [ChL_one (sides_swap h)] at hc
    obtain ⟨c1, c2, c3⟩ := hc
    have hab2 : abB (row A l) r (ν l) = true := by
      cases e : ν l with
      | none => rfl
      | some s =>
        show decide (ixo (row A l) r < ixo (row A l) s) = true
        rw [decide_eq_true_eq]
        have hs := s1 l s e
        have := c3 s hs.2.1 (by simpa using .inl ((hi l s).mp e))
        have hne : r ≠ s := fun q => by
          subst q
          rw [(hi l r).mp e] at hab
          simp [abB] at hab
        rcases Nat.lt_or_ge (ixo (row A l) r) (ixo (row A l) s) with q | q
        · exact q
        · exact (hne (ixo_inj c1 (by omega))).elim
    obtain ⟨y, y1, y2⟩ := s2 l r hl c1 hab2
    rw [(hi y r).mp y1] at hab
    have hab : decide (ixo (row B r) l < ixo (row B r) y) = true := hab
    rw [decide_eq_true_eq] at hab
    omega
/-- the other way round, as a function -/
def inv (n : Nat) (ν : Nat → Option Nat) (r : Nat) : Option Nat := (List.range n).find? fun l => decide (ν l = some r)
theorem inv_iff {n : Nat} {ν : Nat → Option Nat} (h1 : ∀ l r, ν l = some r → l < n) (h2 : ∀ l y r, ν l = some r → ν y = some r → y = l) (l r : Nat) : ν l = some r ↔ inv n ν r = some l := by
  unfold inv
  constructor
  · intro h
    cases e : (List.range n).find? fun l => decide (ν l = some r) with
    | none =>
      rw [List.find?_eq_none] at e
      have := e l (List.mem_range.mpr (h1 l r h))
      simp [h] at this
    | some y =>
      have := List.find?_some e
      rw [h2 l y r h (by simpa using this)]
  · intro h
    have := List.find?_some h
    simpa using this
/-- the rights' best is the lefts' worst -/
theorem worst_swap {o' h : List (Option Nat)} (hs : SidesOk A B) (st : StabP (sPL A B) (oat h)) (hi : ∀ l r, oat h l = some r ↔ oat o' r = some l) (hb : BestP (sPL B A) o') : WorstP (sPL A B) h := fun ν sν l r hl => by
  obtain ⟨s1, s2⟩ := stab_one hs sν
  obtain ⟨t1, t2⟩ := stab_one hs st
  apply Classical.byContradiction
  intro hn
  have hab : abB (row A l) r (ν l) = true := by
    cases e : ν l with
    | none => rfl
    | some s =>
      show decide (ixo (row A l) r < ixo (row A l) s) = true
      rw [decide_eq_true_eq]
      apply Classical.byContradiction
      intro q
      exact hn ⟨s, e, by show ixo (row A l) s ≤ ixo (row A l) r; omega⟩
  obtain ⟨a1, a2, a3, a4⟩ := t1 l r hl
  obtain ⟨y, y1, y2⟩ := s2 l r a3 a2 hab
  have hinv := inv_iff (n := A.length) (ν := ν) (fun l r q => (s1 l r q).1) fun l y r q1 q2 => (s1 l r q1).2.2.2 y q2
  have sμ : StabP (sPL B A) (inv A.length ν) := stab_swap hs hinv sν
  obtain ⟨l', e1, e2⟩ := hb _ (core_of (sPL_ok (sides_swap hs)) sμ) r y (row_lt (sPL_ok hs) (V := sPL A B) a2).2 ((hinv y r).mp y1) (s1 y r y1).2.2.1
  rw [(hi l r).mp hl] at e1
  cases e1
  have e2 : ixo (row B r) l ≤ ixo (row B r) y := e2
  omega
end
end K92
set_option maxRecDepth 100000
set_option maxHeartbeats 2000000
/-! M6: one asks one. -/
namespace K92
variable [DL.TabC]
open PySem PySem.Spec PyProof.Rows L2 RZ DL M90
theorem asc_one {n l : Nat} (h : l < n) : asc n (fun x => decide (x = l)) = [l] := by
  unfold asc
  induction n with
  | zero => omega
  | succ n ih =>
    rw [List.range_succ, List.filter_append]
    by_cases e : l = n
    · subst e
      have : (List.range l).filter (fun x => decide (x = l)) = [] := by
        rw [List.filter_eq_nil_iff]
        intro x hx
        have := List.mem_range.mp hx
        simp
        omega
      rw [this]
      simp
    · rw [ih (by omega)]
      have : ¬ n = l := fun q => e q.symm
      simp [this]
theorem asc_none {n : Nat} {p : Nat → Bool} (h : ∀ x, p x = false) : asc n p = [] := by
  unfold asc
  rw [List.filter_eq_nil_iff]
  intro x _
  simp [h x]
variable {A B : List (List Nat)}
theorem one_step (hs : SidesOk A B) {at' : Nat → Nat} {h : List (Option Nat)} {W : List Nat} {l r : Nat} (d : DAI (sPL A B) at' (fun r => (oat h r).toList) (W ++ [l])) (hr : r < B.length) :
    ((l ∈ row B r ∧ abB (row B r) l (oat h r) = true) → takenL (sPL A B) r (setOf ((oat h r).toList ++ [l])) = [l] ∧ ((oat h r).toList ++ [l]).filter (fun x => !decide (x ∈ takenL (sPL A B) r (setOf ((oat h r).toList ++ [l])))) = (oat h r).toList) ∧
    (¬ (l ∈ row B r ∧ abB (row B r) l (oat h r) = true) → takenL (sPL A B) r (setOf ((oat h r).toList ++ [l])) = (oat h r).toList ∧ ((oat h r).toList ++ [l]).filter (fun x => !decide (x ∈ takenL (sPL A B) r (setOf ((oat h r).toList ++ [l])))) = [l]) := by
  have hl : l < A.length := d.wlt l (by simp)
  have hne : ∀ x, oat h r = some x → x ≠ l ∧ x ∈ row B r ∧ x < A.length := fun x hx => by
    have hm : x ∈ (oat h r).toList := by simp [hx]
    obtain ⟨q1, q2, _⟩ := d.hat r x hm
    refine ⟨fun e => q2 (by simp [e]), ?_, q1⟩
    exact (Ch_in ((d.fix r hr x).mp hm)).1
  have eq : ∀ p : Nat → Bool, (∀ x, x ∈ ChL (sPL A B) r (setOf ((oat h r).toList ++ [l])) ↔ p x = true) → takenL (sPL A B) r (setOf ((oat h r).toList ++ [l])) = asc A.length p := fun p hp => by
    unfold takenL asc
    apply List.filter_congr
    intro x _
    rw [Bool.eq_iff_iff, decide_eq_true_eq]
    exact hp x
  constructor
  · rintro ⟨h1, h2⟩
    have e1 : takenL (sPL A B) r (setOf ((oat h r).toList ++ [l])) = [l] := by
      rw [eq (fun x => decide (x = l)) fun x => ?_, asc_one hl]
      rw [ChL_one hs, decide_eq_true_eq, setOf_iff]
      constructor
      · rintro ⟨g1, g2, g3⟩
        rcases List.mem_append.mp g2 with g2 | g2
        · have hx : oat h r = some x := by
            cases e : oat h r with
            | none => rw [e] at g2; simp at g2
            | some y => rw [e] at g2; simp at g2; rw [g2]
          rw [hx] at h2
          have h2 : decide (ixo (row B r) l < ixo (row B r) x) = true := h2
          rw [decide_eq_true_eq] at h2
          have := g3 l h1 (by simp)
          omega
        · exact List.mem_singleton.mp g2
      · rintro rfl
        refine ⟨h1, by simp, fun y hy hyy => ?_⟩
        have hyy : y ∈ (oat h r).toList ++ [x] := by simpa using hyy
        rcases List.mem_append.mp hyy with q | q
        · cases e : oat h r with
          | none => rw [e] at q; simp at q
          | some z =>
            rw [e] at q h2
            simp at q
            subst q
            have h2 : decide (ixo (row B r) x < ixo (row B r) y) = true := h2
            rw [decide_eq_true_eq] at h2
            omega
        · rw [List.mem_singleton.mp q]
          exact Nat.le_refl _
    refine ⟨e1, ?_⟩
    rw [e1, List.filter_append]
    cases e : oat h r with
    | none => simp
    | some z =>
      have := (hne z e).1
      simp [this]
  · intro hn
    have e1 : takenL (sPL A B) r (setOf ((oat h r).toList ++ [l])) = (oat h r).toList := by
      cases e : oat h r with
      | none =>
        rw [e] at hn
        have hlr : l ∉ row B r := fun q => hn ⟨q, rfl⟩
        rw [show (setOf ((none : Option Nat).toList ++ [l])) = setOf ((oat h r).toList ++ [l]) by rw [e]]
        rw [eq (fun _ => false) fun x => ?_, asc_none fun _ => rfl]
        · rfl
        · rw [ChL_one hs, setOf_iff, e]
          simp
          rintro q1 rfl
          exact (hlr q1).elim
      | some z =>
        obtain ⟨z1, z2, z3⟩ := hne z e
        rw [show (setOf ((some z).toList ++ [l])) = setOf ((oat h r).toList ++ [l]) by rw [e]]
        rw [eq (fun x => decide (x = z)) fun x => ?_, asc_one z3]
        · rfl
        · rw [ChL_one hs, decide_eq_true_eq, setOf_iff, e]
          have hlz : l ∈ row B r → ixo (row B r) z ≤ ixo (row B r) l := fun q => by
            apply Classical.byContradiction
            intro q2
            refine hn ⟨q, ?_⟩
            rw [e]
            show decide (ixo (row B r) l < ixo (row B r) z) = true
            rw [decide_eq_true_eq]
            omega
          constructor
          · rintro ⟨g1, g2, g3⟩
            rcases List.mem_append.mp g2 with g2 | g2
            · simpa using g2
            · have := List.mem_singleton.mp g2
              subst this
              have a1 := g3 z z2 (by simp)
              exact ixo_inj g1 (by have := hlz g1; omega)
          · rintro rfl
            refine ⟨z2, by simp, fun y hy hyy => ?_⟩
            have hyy : y ∈ (some x).toList ++ [l] := by simpa using hyy
            rcases List.mem_append.mp hyy with q | q
            · have : y = x := by simpa using q
              rw [this]
              exact Nat.le_refl _
            · have := List.mem_singleton.mp q
              subst this
              exact hlz hy
    refine ⟨e1, ?_⟩
    rw [e1, List.filter_append]
    cases e : oat h r with
    | none => simp
    | some z =>
      have := (hne z e).1
      simp [Ne.symm this]
end K92
set_option maxRecDepth 100000
set_option maxHeartbeats 1000000
namespace K92
open PySem PySem.Spec PyProof.Rows L2 RZ DL LamX
open C8 (call_isC pe_gc InsC)
open M90
variable [TabC]
def od_Iv (A B : List (List Nat)) (m : Nat) (ε : Ev) : Prop := ∃ (h : List (Option Nat)) (ats W : List Nat) (x5 x6 x7 : Sl), ε = [Sl.val (rks A), Sl.val (rks B), Sl.own (.lst (h.map oD)), Sl.own (.lst (ats.map nD)), Sl.own (.lst (W.map nD)), x5, x6, x7] ∧
  h.length = B.length ∧ ats.length = A.length ∧ DAI (sPL A B) (at0 ats) (fun r => (oat h r).toList) W ∧ m = tot (sPL A B) ats * 21 + W.length
theorem fIx_olst {h : List (Option Nat)} {a : Nat} {P : Dat → Prop} (hl : a < h.length) : fIx (.lst (h.map oD)) (nD a) P = P (oD (oat h a)) := by
  have : atI (h.map oD) ((a : Nat) : Int) = some (oD (oat h a)) := by
    apply atI_nat
    simp [hl, oat]
  show (∃ d, atI (h.map oD) ((a : Nat) : Int) = some d ∧ P d) = _
  rw [this, ex1]
theorem ats_fun {ats : List Nat} {l : Nat} (hal : l < ats.length) : (fun x => if x = l then at0 ats l + 1 else at0 ats x) = at0 (ats.set l (at0 ats l + 1)) := by
  funext x
  by_cases e : x = l
  · subst e; rw [if_pos rfl, at0_set_same hal]
  · rw [if_neg e, at0_set_ne e]
def S_offered : List Dat → (Dat → Prop) → Prop := fun ds P => ∃ (A B : List (List Nat)), ds = [rks A, rks B] ∧ SidesOk A B ∧ ∀ (h : List (Option Nat)) (at' : Nat → Nat), h.length = B.length → DAI (sPL A B) at' (fun r => (oat h r).toList) [] → P (.lst (h.map oD))
theorem len_offered (ds : List Dat) (Q : Dat → Prop) (h : S_offered ds Q) : ds.length = P_offered.length := by
  obtain ⟨A, B, rfl, _⟩ := h; rfl
section
variable {P : Program} {w : World} {K : PySem.W.Frag} {mg : Str → Option Value} {base : Heap}
theorem ok_offered (g : Fx K mg base) : FnOk P w K mg base L2.CX0 2 g.f_offered g.fd_offered P_offered (spF 0 S_offered) := by
  refine okD g.F_offered sc_offered len_offered (fun cdv A outer s H E hr => ?_)
  have nd := (sc_offered).nd
  refine ⟨_, SDs.cost (sds_cons (sd_par3 (ms := []) (i := 2) (j := 3) (l := 4) (pmd_cons (m := .fr) (pd_op op_rep od_repL ((pd_lst (pad_cons pd_non pad_nil))).toSh ((pd_callB call_lenA cd_len (by rfl) g.b_len boot_len (phd_cons ((pd_var (pv 1))).toSh phd_nil))).toSh) (pmd_cons (m := .fr) (pd_op op_rep od_repL ((pd_lst (pad_cons pd_int pad_nil))).toSh ((pd_callB call_lenA cd_len (by rfl) g.b_len boot_len (phd_cons ((pd_var (pv 0))).toSh phd_nil))).toSh) (pmd_cons (m := .fr) (pd_lrange1 rfl (by rfl) g.b_list (by rfl) g.b_range (pd_callB call_lenA cd_len (by rfl) g.b_len boot_len (phd_cons ((pd_var (pv 0))).toSh phd_nil))) pmd_nil))) rfl rfl nd rfl rfl rfl (by decide) (by decide) (by decide) rfl rfl rfl (by rfl)) (sds_cons (sd_while 20000 PassesOwn.never (ptd_cmp (op_neD (ru0 hr)) od_ne (pd_varS (pv 4)) ((pd_lst pad_nil)).toSh (nomark _)) (sds_cons (sd_pop (pv 4) (i := 5) nd rfl (.inl rfl)) (sds_cons (sd_if (ptd_cmp (op_eqD (ru0 hr)) od_eq ((pd_ix (ix_all (ru1 hr)) od_ix (pd_varS (pv 3)) ((pd_var (pv 5))).toSh (fun _ _ => rfl))).toSh ((pd_callB call_lenA cd_len (by rfl) g.b_len boot_len (phd_cons ((pd_ix (ix_all (ru1 hr)) od_ix ((pd_var (pv 0))).toSh ((pd_var (pv 5))).toSh (fun _ _ => rfl))).toSh phd_nil))).toSh (nomark _)) (sds_cons sd_cont sds_nil) sds_nil) (sds_cons (sd_asg (i := 6) (pd_ix (ix_all (ru1 hr)) od_ix ((pd_ix (ix_all (ru1 hr)) od_ix ((pd_var (pv 0))).toSh ((pd_var (pv 5))).toSh (fun _ _ => rfl))).toSh ((pd_ix (ix_all (ru1 hr)) od_ix (pd_varS (pv 3)) ((pd_var (pv 5))).toSh (fun _ _ => rfl))).toSh (fun _ _ => rfl)) nd rfl (.inl rfl)) (sds_cons (sd_augL (pv 3) (pd_var (pv 5)) pd_int) (sds_cons (sd_asg (i := 7) (pd_ix (ix_all (ru1 hr)) od_ix (pd_varS (pv 2)) ((pd_var (pv 6))).toSh (fun _ _ => rfl)) nd rfl (.inl rfl)) (sds_cons (sd_if ((pwd_and (ptd_cmp (op_inA (ru hr)) od_in ((pd_var (pv 5))).toSh ((pd_ix (ix_all (ru1 hr)) od_ix ((pd_var (pv 1))).toSh ((pd_var (pv 6))).toSh (fun _ _ => rfl))).toSh (by with_unfolding_all rfl)) (pwd_and1 (ptd_val (pd_call (ok_is_above g) (hr.mono (by decide)) (by rfl) g.g_is_above g.F_is_above.kp (b_is_above g) (pad_cons (pd_ix (ix_all (ru1 hr)) od_ix ((pd_var (pv 1))).toSh ((pd_var (pv 6))).toSh (fun _ _ => rfl)) (pad_cons (pd_var (pv 5)) (pad_cons (pd_var (pv 7)) pad_nil)))))))).pt (sds_cons (sd_setL (pv 2) (pd_var (pv 6)) (pd_var (pv 5))) (sds_cons (sd_ext (pv 4) (pd_if (ptd_cmp op_isnA od_isn ((pd_var (pv 7))).toSh (pd_non).toSh (nomark _)) ((pd_lst (pad_cons (pd_var (pv 7)) pad_nil))).frz ((pd_lst pad_nil)).frz)) sds_nil)) (sds_cons (sd_app (pv 4) (pd_var (pv 5))) sds_nil)) sds_nil))))))) (sds_cons (((sd_ret (pd_var (pv 2)))).frz 2) sds_nil))) (by decide), fun ds Q h => ?_⟩
  obtain ⟨A, B, rfl, hs, hQ⟩ := h
  have ok := sPL_ok hs
  have hn : A.length ≤ 20 := hs.1.2.1
  have hm : B.length ≤ 20 := hs.2.1.2.1
  simp
  refine ⟨by omega, by omega, by omega, by omega, by omega, ?_⟩
  refine ⟨od_Iv A B, ⟨tot (sPL A B) (List.replicate A.length 0) * 21 + (List.range A.length).length, ?_, List.replicate B.length none, List.replicate A.length 0, List.range A.length, .off, .off, .off, ?_, by simp, by simp, ?_, rfl⟩, fun m ε ⟨h, ats, W, x5, x6, x7, hε, hl1, hl2, hD, hm2⟩ => ?_⟩
  · have : tot (sPL A B) (List.replicate A.length 0) ≤ A.length * 20 := sum_le fun x hx => by
      have := (ok.sd.1.2.2 _ (row_mem hx)).len
      omega
    have e2 : A.length * 20 ≤ 20 * 20 := Nat.mul_le_mul_right _ hn
    simp
    omega
  · simp [oD, rng0, nD]
  · have e1 : at0 (List.replicate A.length 0) = fun _ => 0 := by
      funext x
      simp [at0, List.getElem?_replicate]
      split <;> rfl
    have e2 : (fun r => (oat (List.replicate B.length none) r).toList) = fun _ => ([] : List Nat) := by
      funext x
      simp [oat, List.getElem?_replicate]
      split <;> rfl
    rw [e1, e2]
    exact DAI.init (sPL A B)
  · subst hε
    simp
    rw [eqD_lnil]
    rcases List.eq_nil_or_concat W with rfl | ⟨W', l, rfl⟩
    · exact .inl ⟨rfl, hQ h _ hl1 hD⟩
    · rw [List.concat_eq_append] at hD hm2 ⊢
      have hlL : l < A.length := hD.wlt l (by simp)
      have hal : l < ats.length := by omega
      have hW := nodup_lt hD.wnd hD.wlt
      refine .inr ⟨by simp, W'.map nD, nD l, by simp, ?_⟩
      rw [fIx_lst hal, fIx_rks hlL]
      rw [fLen_rk]
      refine ⟨pl_nD, pl_int, ?_⟩
      by_cases he : at0 ats l = (row A l).length
      · refine .inr ⟨?_, tot (sPL A B) ats * 21 + W'.length, ?_, h, ats, W', _, _, _, rfl, hl1, hl2, hD.drop he, rfl⟩
        · rw [he]; exact eqD_ii.trans (by simp)
        · simp at hm2; omega
      · have hlt : at0 ats l < (row A l).length := by have := hD.atl l; exact Nat.lt_of_le_of_ne this he
        have hr0 : (row A l)[at0 ats l]? = some (at0 (row A l) (at0 ats l)) := at0_get hlt
        generalize hr' : at0 (row A l) (at0 ats l) = r at *
        have hrm : r < B.length := (row_lt ok (V := sPL A B) (List.mem_of_getElem? hr0)).2
        have hrs : r < h.length := by omega
        refine .inl ⟨?_, ?_⟩
        · show eqD (.int _) (.int _) = false
          rw [eqD_ii]
          simp
          omega
        rw [fIx_rks hlL]
        rw [fIx_lst hal, fIx_rk hlt, hr']
        refine ⟨l, rfl, (at0 ats l : Int), ⟨_, at0_get hal, rfl⟩, ?_⟩
        rw [fIx_olst hrs, fIx_rks hrm, fIn_rk]
        have hset2 : (ats.map nD).set l (.int ((at0 ats l : Int) + 1)) = (ats.set l (at0 ats l + 1)).map nD := by rw [List.map_set]; rfl
        rw [hset2]
        have hD' := hD.ask ok hr0
        obtain ⟨os1, os2⟩ := one_step hs hD hrm
        rw [ats_fun hal] at hD'
        have hts := tot_set (V := sPL A B) hlL hal hlt
        have hW2 : W'.length < 20 := by
          have h0 : (W' ++ [l]).length ≤ A.length := hW
          simp at h0
          omega
        have rej : ¬ (l ∈ row B r ∧ abB (row B r) l (oat h r) = true) → (W'.map nD).length < 100000 ∧ ∃ m', m' < m ∧ od_Iv A B m' [Sl.val (rks A), Sl.val (rks B), Sl.own (Dat.lst (h.map oD)), Sl.own (Dat.lst ((ats.set l (at0 ats l + 1)).map nD)), Sl.own (Dat.lst (W'.map nD ++ [nD l])), Sl.val (nD l), Sl.val (nD r), Sl.val (oD (oat h r))] := fun hn => by
          obtain ⟨e1, e2⟩ := os2 hn
          rw [e1] at e2 hD'
          rw [e2] at hD'
          have e3 : (fun s => if s = r then (oat h r).toList else (oat h s).toList) = fun s => (oat h s).toList := by
            funext s
            by_cases e : s = r
            · subst e; rw [if_pos rfl]
            · rw [if_neg e]
          rw [e3] at hD'
          refine ⟨by simp; omega, tot (sPL A B) (ats.set l (at0 ats l + 1)) * 21 + (W' ++ [l]).length, ?_, h, _, W' ++ [l], Sl.val (nD l), Sl.val (nD r), Sl.val (oD (oat h r)), by rw [List.map_append]; rfl, hl1, by simpa using hl2, hD', rfl⟩
          omega
        by_cases h1 : l ∈ row B r
        · refine .inr ⟨by simpa using h1, ?_⟩
          rw [fIx_rks hrm]
          refine ⟨row B r, l, oat h r, rfl, h1, fun b hb => ?_, ?_⟩
          · have hm : b ∈ (oat h r).toList := by simp [hb]
            exact (Ch_in ((hD.fix r hrm b).mp hm)).1
          by_cases h2 : abB (row B r) l (oat h r) = true
          · refine .inr ⟨by rw [h2], r, rfl, r, ixN_nat hrs, ?_⟩
            obtain ⟨e1, e2⟩ := os1 ⟨h1, h2⟩
            rw [e1] at e2 hD'
            rw [e2] at hD'
            have e3 : (fun s => if s = r then [l] else (oat h s).toList) = fun s => (oat (h.set r (some l)) s).toList := by
              funext s
              by_cases e : s = r
              · subst e; rw [if_pos rfl, oat_set_same hrs]; rfl
              · rw [if_neg e, oat_set_ne e]
            rw [e3] at hD'
            have hset3 : (h.map oD).set r (nD l) = (h.set r (some l)).map oD := by rw [List.map_set]; rfl
            rw [hset3]
            cases e : oat h r with
            | none =>
              rw [e] at hD'
              have hD' : DAI (sPL A B) (at0 (ats.set l (at0 ats l + 1))) (fun s => (oat (h.set r (some l)) s).toList) (W' ++ []) := hD'
              rw [List.append_nil] at hD'
              refine .inl ⟨rfl, by simp; omega, tot (sPL A B) (ats.set l (at0 ats l + 1)) * 21 + W'.length, ?_, _, _, W', _, _, _, rfl, by simpa using hl1, by simpa using hl2, hD', rfl⟩
              simp at hm2
              omega
            | some z =>
              rw [e] at hD'
              have hD' : DAI (sPL A B) (at0 (ats.set l (at0 ats l + 1))) (fun s => (oat (h.set r (some l)) s).toList) (W' ++ [z]) := hD'
              refine .inr ⟨rfl, by simp; omega, tot (sPL A B) (ats.set l (at0 ats l + 1)) * 21 + (W' ++ [z]).length, ?_, _, _, W' ++ [z], Sl.val (nD l), Sl.val (nD r), Sl.val (oD (some z)), by rw [List.map_append]; rfl, by simpa using hl1, by simpa using hl2, hD', rfl⟩
              simp at hm2 ⊢
              omega
          · exact .inl ⟨by simpa using h2, rej fun q => h2 q.2⟩
        · exact .inl ⟨by simpa using h1, rej fun q => h1 q.1⟩
end
end K92
set_option maxRecDepth 100000
set_option maxHeartbeats 2000000
/-! M7: outcomes from stable functions; the rights' side. -/
namespace K92
variable [DL.TabC]
open PySem PySem.Spec PyProof.Rows L2 RZ DL M90
theorem out_of {V : PL} (ok : V.Ok) {o : List (Option Nat)} (ho : o.length = V.lefts.length) (st : StabP V (oat o)) : IsOut V o ∧ ∀ l r, ¬ Blk V o l r := by
  have hm : ∀ r, (fun y => decide (y ∈ memb o r)) = fun y => decide (oat o y = some r) := fun r => by
    funext y
    exact decide_eq_decide.mpr mem_memb
  refine ⟨⟨ho, fun l r h hl => ?_, fun r hr => ?_⟩, fun l r hB => ?_⟩
  · obtain ⟨h1, h2, h3⟩ := st.ir l r h
    exact ⟨(row_lt ok h2).2, fitB_iff.mpr ⟨h2, (Ch_in h3).1⟩⟩
  · rw [hm]
    unfold takenL memb asc
    rw [ho]
    apply List.filter_congr
    intro x hx
    apply decide_eq_decide.mpr
    exact ⟨fun h => by simpa using (Ch_in h).2, fun h => (st.ir x r h).2.2⟩
  · obtain ⟨h1, h2, h3, h4, h5, h6⟩ := hB
    refine st.nb l r h1 h2 h5 ?_
    have e : (fun y => decide (y ∈ memb o r ++ [l])) = fun y => decide (oat o y = some r ∨ y = l) := by
      funext y
      apply decide_eq_decide.mpr
      rw [List.mem_append, mem_memb, List.mem_singleton]
    rw [← e]
    exact h6
theorem oat_range {n : Nat} {f : Nat → Option Nat} {i : Nat} (h : i < n) : oat ((List.range n).map f) i = f i := by simp [oat, h]
theorem oat_out {o : List (Option Nat)} {i : Nat} (h : o.length ≤ i) : oat o i = none := by simp [oat, h]
theorem rights_done {A B : List (List Nat)} (hs : SidesOk A B) {h : List (Option Nat)} {at' : Nat → Nat} (hl : h.length = A.length) (d : DAI (sPL B A) at' (fun l => (oat h l).toList) []) : IsOut (sPL A B) h ∧ (∀ l r, ¬ Blk (sPL A B) h l r) ∧ WorstP (sPL A B) h := by
  have hs' := sides_swap hs
  have lt : ∀ l r, oat h l = some r → l < A.length := fun l r q => by
    rcases Nat.lt_or_ge l A.length with w | w
    · exact w
    · rw [oat_out (by omega)] at q; cases q
  have inj : ∀ l y r, oat h l = some r → oat h y = some r → y = l := fun l y r q1 q2 => by
    have a1 := (d.hat l r (by simp [q1])).2.2.2
    have a2 := (d.hat y r (by simp [q2])).2.2.2
    rw [a1] at a2
    exact (Option.some.inj a2).symm
  have ltr : ∀ l r, oat h l = some r → r < B.length := fun l r q => (d.hat l r (by simp [q])).1
  have hi0 := inv_iff (n := A.length) (ν := oat h) lt inj
  have hi : ∀ l r, oat h l = some r ↔ oat ((List.range B.length).map (inv A.length (oat h))) r = some l := fun l r => by
    rcases Nat.lt_or_ge r B.length with w | w
    · rw [oat_range w]
      exact hi0 l r
    · have e0 : oat ((List.range B.length).map (inv A.length (oat h))) r = none := oat_out (by simpa using w)
      rw [e0]
      constructor
      · intro q
        have := ltr l r q
        omega
      · intro q; cases q
  obtain ⟨i1, i2, i3⟩ := d.done (sPL_ok hs') (o := (List.range B.length).map (inv A.length (oat h))) (by simp [sPL]) fun r l => by
    rw [← hi]
    simp
  have st : StabP (sPL A B) (oat h) := stab_swap hs' (fun r l => (hi l r).symm) (stab_of (sPL_ok hs') i1 i2)
  obtain ⟨j1, j2⟩ := out_of (sPL_ok hs) hl st
  exact ⟨j1, j2, worst_swap hs st hi i3⟩
end K92
set_option maxRecDepth 100000
set_option maxHeartbeats 1000000
namespace K92
open PySem PySem.Spec PyProof.Rows L2 RZ DL LamX
open C8 (call_isC pe_gc InsC)
open M90
variable [TabC]
def lb_Iv (C : Addr) (A B : List (List Nat)) (h : List (Option Nat)) (i : Nat) (ε : Ev) : Prop := ∃ (f : List (Option Nat)) (x2 x3 : Sl), ε = [Sl.val (pSides C A B), Sl.own (.lst (f.map oD)), x2, x3] ∧ f.length = A.length ∧ ∀ l r, oat f l = some r ↔ r < i ∧ oat h r = some l
theorem map_oD_get {h : List (Option Nat)} {i : Nat} {d : Dat} (e : (h.map oD)[i]? = some d) : i < h.length ∧ d = oD (oat h i) := by
  rw [List.getElem?_map] at e
  cases q : h[i]? with
  | none => rw [q] at e; cases e
  | some r =>
    rw [q] at e
    cases e
    obtain ⟨h1, h2⟩ := List.getElem?_eq_some_iff.mp q
    refine ⟨h1, ?_⟩
    unfold oat
    rw [List.getD_eq_getElem?_getD, q]
    rfl
def S_lefts_best (C : Addr) : List Dat → (Dat → Prop) → Prop := fun ds P => ∃ (A B : List (List Nat)), ds = [pSides C A B] ∧ SidesOk A B ∧ ∀ o, IsOut (sPL A B) o → (∀ l r, ¬ Blk (sPL A B) o l r) → BestP (sPL A B) o → P (outD o)
theorem len_lefts_best {C : Addr} (ds : List Dat) (Q : Dat → Prop) (h : S_lefts_best C ds Q) : ds.length = P_lefts_best.length := by
  obtain ⟨A, B, rfl, _⟩ := h; rfl
section
variable {P : Program} {w : World} {K : PySem.W.Frag} {mg : Str → Option Value} {base : Heap}
theorem ok_lefts_best (g : Fx K mg base) : FnOk P w K mg base L2.CX0 3 g.f_lefts_best g.fd_lefts_best P_lefts_best (spF 0 (S_lefts_best g.C_Sides)) := by
  refine okD g.F_lefts_best sc_lefts_best len_lefts_best (fun cdv A outer s H E hr => ?_)
  have nd := (sc_lefts_best).nd
  refine ⟨_, SDs.cost (sds_cons (sd_asgO (i := 1) (pd_op op_rep od_repL ((pd_lst (pad_cons pd_non pad_nil))).toSh ((pd_callB call_lenA cd_len (by rfl) g.b_len boot_len (phd_cons ((pd_fld g.cl_Sides g.na_Sides_lefts (pd_var (pv 0)))).toSh phd_nil))).toSh) nd rfl (.inl rfl)) (sds_cons (sd_for 1024 PassesOwn.never rfl (pid_enum (by rfl) g.b_enumerate (pad_cons (pd_call (ok_offered g) (hr.mono (by decide)) (by rfl) g.g_offered g.F_offered.kp (b_offered g) (pad_cons (pd_fld g.cl_Sides g.na_Sides_lefts (pd_var (pv 0))) (pad_cons (pd_fld g.cl_Sides g.na_Sides_rights (pd_var (pv 0))) pad_nil))) pad_nil)) (pgd_tup (n := 2) rfl (pgsd_cons (pgd_name (i := 2) nd rfl (.inl rfl)) (pgsd_cons (pgd_name (i := 3) nd rfl (.inl rfl)) pgsd_nil))) (sds_cons (sd_if (ptd_cmp op_isnA od_isn ((pd_var (pv 3))).toSh (pd_non).toSh (nomark _)) (sds_cons (sd_setL (pv 1) (pd_var (pv 3)) (pd_var (pv 2))) sds_nil) sds_nil) sds_nil)) (sds_cons (sd_ret (pd_callTy call_tuple_ofF cd_tup (by rfl) g.b_tuple boot_tuple (phd_cons (pd_varS (pv 1)) phd_nil))) sds_nil))) (by decide), fun ds Q h => ?_⟩
  obtain ⟨A, B, rfl, hs, hQ⟩ := h
  have ok := sPL_ok hs
  have hn : A.length ≤ 20 := hs.1.2.1
  have hm : B.length ≤ 20 := hs.2.1.2.1
  simp [pSides]
  refine ⟨by omega, by omega, ?_⟩
  refine ⟨_, rfl, _, _, rfl, lkS_l, _, rfl, _, _, rfl, lkS_r, A, B, rfl, hs, fun h at' hl hD => ?_⟩
  change sFor 1024 (iEn fun _ P => P [.lst (h.map oD)]) _ _ _ _
  refine for_en (ds := h.map oD) (d := .lst (h.map oD)) (fun P h => h) (.inl rfl) (by simp; omega) (lb_Iv g.C_Sides A B h) ⟨List.replicate A.length none, .off, .off, by simp [oD, pSides], by simp, fun l r => by simp [oat, List.getElem?_replicate]; split <;> simp⟩ (fun i d ε hd' ⟨f, x2, x3, hε, hfl, hf⟩ => ?_) (fun ε ⟨f, x2, x3, hε, hfl, hf⟩ => ?_)
  · obtain ⟨hi, rfl⟩ := map_oD_get hd'
    subst hε
    simp
    cases e : oat h i with
    | none =>
      refine .inl ⟨rfl, f, _, _, rfl, hfl, fun l r => (hf l r).trans ⟨fun h => ⟨by omega, h.2⟩, fun h => ⟨?_, h.2⟩⟩⟩
      have : r ≠ i := fun q => by rw [q, e] at h; cases h.2
      omega
    | some l =>
      have hlA : l < A.length := (hD.hat i l (by simp [e])).1
      have hset : (f.map oD).set l (.int (i : Int)) = (f.set l (some i)).map oD := by rw [List.map_set]; rfl
      refine .inr ⟨rfl, (l : Int), rfl, l, ixN_nat (by omega), ?_⟩
      rw [hset]
      refine ⟨f.set l (some i), _, _, rfl, by simpa using hfl, fun l' r => ?_⟩
      by_cases q : l' = l
      · subst q
        rw [oat_set_same (by omega)]
        constructor
        · intro z; cases z; exact ⟨by omega, e⟩
        · rintro ⟨h1, h2⟩
          have a1 := (hD.hat i l' (by simp [e])).2.2.2
          have a2 := (hD.hat r l' (by simp [h2])).2.2.2
          rw [a1] at a2
          exact a2
      · rw [oat_set_ne q, hf l' r]
        constructor
        · rintro ⟨h1, h2⟩; exact ⟨by omega, h2⟩
        · rintro ⟨h1, h2⟩
          refine ⟨?_, h2⟩
          have : r ≠ i := fun z => by
            rw [z, e] at h2
            cases h2
            exact q rfl
          omega
  · subst hε
    simp
    rw [List.length_map] at hf
    have ho : ∀ l r, oat f l = some r ↔ l ∈ (oat h r).toList := fun l r => by
      rw [hf]
      simp
      intro q
      rcases Nat.lt_or_ge r h.length with w | w
      · exact w
      · simp [oat, w] at q
    obtain ⟨h1, h2, h3⟩ := hD.done ok hfl ho
    exact hQ f h1 h2 h3
end
def S_rights_best (C : Addr) : List Dat → (Dat → Prop) → Prop := fun ds P => ∃ (A B : List (List Nat)), ds = [pSides C A B] ∧ SidesOk A B ∧ ∀ o, IsOut (sPL A B) o → (∀ l r, ¬ Blk (sPL A B) o l r) → WorstP (sPL A B) o → P (outD o)
theorem len_rights_best {C : Addr} (ds : List Dat) (Q : Dat → Prop) (h : S_rights_best C ds Q) : ds.length = P_rights_best.length := by
  obtain ⟨A, B, rfl, _⟩ := h; rfl
section
variable {P : Program} {w : World} {K : PySem.W.Frag} {mg : Str → Option Value} {base : Heap}
theorem ok_rights_best (g : Fx K mg base) : FnOk P w K mg base L2.CX0 3 g.f_rights_best g.fd_rights_best P_rights_best (spF 0 (S_rights_best g.C_Sides)) := by
  refine okD g.F_rights_best sc_rights_best len_rights_best (fun cdv A outer s H E hr => ?_)
  have nd := (sc_rights_best).nd
  refine ⟨_, SDs.cost (sds_cons (sd_ret (pd_callTy call_tuple_ofF cd_tup (by rfl) g.b_tuple boot_tuple (phd_cons ((pd_call (ok_offered g) (hr.mono (by decide)) (by rfl) g.g_offered g.F_offered.kp (b_offered g) (pad_cons (pd_fld g.cl_Sides g.na_Sides_rights (pd_var (pv 0))) (pad_cons (pd_fld g.cl_Sides g.na_Sides_lefts (pd_var (pv 0))) pad_nil)))).toSh phd_nil))) sds_nil) (by decide), fun ds Q h => ?_⟩
  obtain ⟨A, B, rfl, hs, hQ⟩ := h
  simp [pSides]
  refine ⟨B, A, rfl, sides_swap hs, fun h at' hl hD => ?_⟩
  simp
  obtain ⟨h1, h2, h3⟩ := rights_done hs hl hD
  exact hQ h h1 h2 h3
end
def S_best_for_lefts (C : Addr) := S_lefts_best C
theorem len_best_for_lefts {C : Addr} (ds : List Dat) (Q : Dat → Prop) (h : S_best_for_lefts C ds Q) : ds.length = P_best_for_lefts.length := by
  obtain ⟨A, B, rfl, _⟩ := h; rfl
section
variable {P : Program} {w : World} {K : PySem.W.Frag} {mg : Str → Option Value} {base : Heap}
theorem ok_best_for_lefts (g : Fx K mg base) : FnOk P w K mg base L2.CX0 4 g.f_best_for_lefts g.fd_best_for_lefts P_best_for_lefts (spF 0 (S_best_for_lefts g.C_Sides)) := by
  refine okD g.F_best_for_lefts sc_best_for_lefts len_best_for_lefts (fun cdv A outer s H E hr => ?_)
  have nd := (sc_best_for_lefts).nd
  refine ⟨_, SDs.cost (sds_cons (sd_drop (pd_call (ok_check_sides g) (hr.mono (by decide)) (by rfl) g.g_check_sides g.F_check_sides.kp (b_check_sides g) (pad_cons (pd_var (pv 0)) pad_nil))) (sds_cons (sd_ret (pd_call (ok_lefts_best g) (hr.mono (by decide)) (by rfl) g.g_lefts_best g.F_lefts_best.kp (b_lefts_best g) (pad_cons (pd_var (pv 0)) pad_nil))) sds_nil)) (by decide), fun ds Q h => ?_⟩
  obtain ⟨A, B, rfl, hs, hQ⟩ := h
  simp
  exact ⟨_, rfl, A, B, rfl, hs, hQ⟩
end
def S_best_for_rights (C : Addr) := S_rights_best C
theorem len_best_for_rights {C : Addr} (ds : List Dat) (Q : Dat → Prop) (h : S_best_for_rights C ds Q) : ds.length = P_best_for_rights.length := by
  obtain ⟨A, B, rfl, _⟩ := h; rfl
section
variable {P : Program} {w : World} {K : PySem.W.Frag} {mg : Str → Option Value} {base : Heap}
theorem ok_best_for_rights (g : Fx K mg base) : FnOk P w K mg base L2.CX0 4 g.f_best_for_rights g.fd_best_for_rights P_best_for_rights (spF 0 (S_best_for_rights g.C_Sides)) := by
  refine okD g.F_best_for_rights sc_best_for_rights len_best_for_rights (fun cdv A outer s H E hr => ?_)
  have nd := (sc_best_for_rights).nd
  refine ⟨_, SDs.cost (sds_cons (sd_drop (pd_call (ok_check_sides g) (hr.mono (by decide)) (by rfl) g.g_check_sides g.F_check_sides.kp (b_check_sides g) (pad_cons (pd_var (pv 0)) pad_nil))) (sds_cons (sd_ret (pd_call (ok_rights_best g) (hr.mono (by decide)) (by rfl) g.g_rights_best g.F_rights_best.kp (b_rights_best g) (pad_cons (pd_var (pv 0)) pad_nil))) sds_nil)) (by decide), fun ds Q h => ?_⟩
  obtain ⟨A, B, rfl, hs, hQ⟩ := h
  simp
  exact ⟨_, rfl, A, B, rfl, hs, hQ⟩
end
theorem cutT {α : Type} (xs : List α) (a : Nat) : cut xs none (some (a : Int)) = xs.take a := by
  unfold cut
  rw [HT.sIx_none, HT.sIx_nat]
  simp
theorem cutD {α : Type} (xs : List α) (a : Nat) : cut xs (some (a : Int)) none = xs.drop a := by
  unfold cut
  rw [HT.sIx_none, HT.sIx_nat]
  rcases Nat.lt_or_ge a xs.length with h | h
  · rw [Nat.min_eq_left (by omega)]
    exact List.take_of_length_le (by simp)
  · rw [Nat.min_eq_right h]
    simp
    exact h
def S_exchanged : List Dat → (Dat → Prop) → Prop := fun ds P => ∃ (A : List (List Nat)) (a : Nat) (r : List Nat), ds = [rks A, nD a, rk r] ∧ a < A.length ∧ A.length ≤ 20 ∧ P (rks (A.set a r))
theorem len_exchanged (ds : List Dat) (Q : Dat → Prop) (h : S_exchanged ds Q) : ds.length = P_exchanged.length := by
  obtain ⟨A, a, r, rfl, _⟩ := h; rfl
section
variable {P : Program} {w : World} {K : PySem.W.Frag} {mg : Str → Option Value} {base : Heap}
theorem ok_exchanged (g : Fx K mg base) : FnOk P w K mg base L2.CX0 1 g.f_exchanged g.fd_exchanged P_exchanged (spF 0 S_exchanged) := by
  refine okD g.F_exchanged sc_exchanged len_exchanged (fun cdv A outer s H E hr => ?_)
  have nd := (sc_exchanged).nd
  refine ⟨_, SDs.cost (sds_cons (sd_ret (pd_op op_addA od_add ((pd_op op_addA od_add ((pd_slice ((pd_var (pv 0))).toSh pod_none (pod_some (pd_var (pv 1))))).toSh ((pd_tup (pad_cons (pd_var (pv 2)) pad_nil))).toSh)).toSh ((pd_slice ((pd_var (pv 0))).toSh (pod_some (pd_op op_addA od_add ((pd_var (pv 1))).toSh (pd_int).toSh)) pod_none)).toSh)) sds_nil) (by decide), fun ds Q h => ?_⟩
  obtain ⟨A, a, r, rfl, ha, hl, hQ⟩ := h
  simp [rks]
  rw [cutT]
  refine ⟨by simp; omega, ((a + 1 : Nat) : Int), by simp, ?_⟩
  rw [cutD]
  refine ⟨by simp; omega, ?_⟩
  have e : (A.map rk).take a ++ rk r :: (A.map rk).drop (a + 1) = (A.set a r).map rk := by
    rw [List.map_set, List.set_eq_take_append_cons_drop, if_pos (by simpa using ha)]
  rw [e]
  exact hQ
end
end K92
set_option maxRecDepth 100000
set_option maxHeartbeats 1000000
namespace K92
open PySem PySem.Spec PyProof.Rows L2 RZ DL LamX
open C8 (call_isC pe_gc InsC)
open M90
variable [TabC]
def S__law_take : List Dat → (Dat → Prop) → Prop := fun ds P => ∃ n : Nat, ds = [.cell, nD n] ∧ 0 < n ∧ n ≤ 1000 ∧ ∀ d : Nat, d < n → P (nD d)
theorem len__law_take (ds : List Dat) (Q : Dat → Prop) (h : S__law_take ds Q) : ds.length = P__law_take.length := by
  obtain ⟨n, rfl, _⟩ := h; rfl
section
variable {P : Program} {w : World} {K : PySem.W.Frag} {mg : Str → Option Value} {base : Heap}
theorem ok__law_take (g : Fx K mg base) : FnOk P w K mg base L2.CX0 1 g.f__law_take g.fd__law_take P__law_take (spF 1 S__law_take) := by
  refine okD g.F__law_take sc__law_take len__law_take (fun cdv A outer s H E hr => ?_)
  have nd := (sc__law_take).nd
  refine ⟨_, SDs.cost (sds_cons (sd_if ((pwd_and (ptd_val (pd_box (k := 1) (pv 0) (by decide))) (pwd_and1 (ptd_cmp op_gt od_C ((pd_box (k := 0) (pv 0) (by decide))).toSh (pd_int).toSh (nomark _))))).pt (sds_cons (sd_asg (i := 2) (pd_op op_mod od_I ((pd_callTy call_int1 cd_int (by rfl) g.b_int boot_int (phd_cons ((pd_box (k := 0) (pv 0) (by decide))).toSh phd_nil))).toSh ((pd_var (pv 1))).toSh) nd rfl (.inl rfl)) (sds_cons (sd_box0 (pv 0) (pd_op op_fdiv od_I ((pd_box (k := 0) (pv 0) (by decide))).toSh ((pd_var (pv 1))).toSh)) (sds_cons (sd_ret (pd_var (pv 2))) sds_nil))) sds_nil) (sds_cons (sd_box3 (pv 0) (pv 0)) (sds_cons (sd_asg (i := 3) (pd_op op_mod od_I ((pd_callTy call_int1 cd_int (by rfl) g.b_int boot_int (phd_cons ((pd_op op_pow od_I ((pd_op op_addA od_add ((pd_op op_addA od_add ((pd_box (k := 2) (pv 0) (by decide))).toSh ((pd_op op_mulA od_mul (pd_int).toSh ((pd_box (k := 3) (pv 0) (by decide))).toSh)).toSh)).toSh (pd_int).toSh)).toSh (pd_int).toSh)).toSh phd_nil))).toSh (pd_int).toSh) nd rfl (.inl rfl)) (sds_cons (sd_ret (pd_op op_mod od_I ((pd_callTy call_int1 cd_int (by rfl) g.b_int boot_int (phd_cons ((pd_op op_fdiv od_I ((pd_op op_mod od_I ((pd_callTy call_int1 cd_int (by rfl) g.b_int boot_int (phd_cons ((pd_op op_pow od_I ((pd_op op_addA od_add ((pd_op op_mulA od_mul ((pd_var (pv 3))).toSh (pd_int).toSh)).toSh ((pd_op op_mulA od_mul (pd_int).toSh ((pd_box (k := 3) (pv 0) (by decide))).toSh)).toSh)).toSh (pd_int).toSh)).toSh phd_nil))).toSh (pd_int).toSh)).toSh (pd_int).toSh)).toSh phd_nil))).toSh ((pd_var (pv 1))).toSh)) sds_nil)))) (by decide), fun ds Q h => ?_⟩
  obtain ⟨n, rfl, h1, h2, hQ⟩ := h
  have hC : (CAP : Int) = 274877906944 := by unfold CAP; omega
  have key : ∀ (z : Int) (R : Dat → Prop), (∀ d : Nat, d < n → R (nD d)) → fI HMod.hMod (fun x j => 0 < j) (Dat.int z) (nD n) R := fun z R hR => by
    refine ⟨show (0 : Int) < n by omega, ?_⟩
    have e1 : 0 ≤ z % (n : Int) := Int.emod_nonneg _ (by omega)
    have e2 : z % (n : Int) < n := Int.emod_lt_of_pos _ (by omega)
    have := hR (z % (n : Int)).toNat (by omega)
    have e : nD (z % (n : Int)).toNat = Dat.int (z % n) := by
      unfold nD; rw [Int.toNat_of_nonneg e1]
    rwa [e] at this
  have low : ∀ m : Int, 0 ≤ m → m < 2147483647 → ∀ l : Int, 0 ≤ l → l ≤ ↑CAP → CMul 15487019 l ∧ CPow (m + 15487019 * l + 179425853) 5 ∧ CMul ((m + 15487019 * l + 179425853) ^ 5 % 2147483647) 48271 ∧
      ∀ l_1 : Int, 0 ≤ l_1 → l_1 ≤ ↑CAP → CMul 104743 l_1 ∧ CPow ((m + 15487019 * l + 179425853) ^ 5 % 2147483647 * 48271 + 104743 * l_1) 3 ∧
        CDiv (((m + 15487019 * l + 179425853) ^ 5 % 2147483647 * 48271 + 104743 * l_1) ^ 3 % 2147483587) 64 ∧
        fI HMod.hMod (fun x j => 0 < j) (Dat.int (((m + 15487019 * l + 179425853) ^ 5 % 2147483647 * 48271 + 104743 * l_1) ^ 3 % 2147483587 / 64)) (nD n) Q := fun m m0 m1 l l0 l1 => by
    rw [hC] at l1
    refine ⟨.inl (by omega), ⟨by omega, by omega, by omega⟩, .inr (by omega), fun k k0 k1 => ?_⟩
    rw [hC] at k1
    have a0 : 0 ≤ (m + 15487019 * l + 179425853) ^ 5 % 2147483647 := Int.emod_nonneg _ (by omega)
    have a1 : (m + 15487019 * l + 179425853) ^ 5 % 2147483647 < 2147483647 := Int.emod_lt_of_pos _ (by omega)
    exact ⟨.inl (by omega), ⟨by omega, by omega, by omega⟩, ⟨by omega, by omega⟩, key _ _ hQ⟩
  simp
  refine ⟨low, fun g g0 => ?_⟩
  by_cases hg : g ≤ 0
  · exact .inl ⟨hg, low⟩
  · refine .inr ⟨by omega, fun z z0 => key _ _ fun d hd => fun y y0 => ?_⟩
    refine ⟨⟨show (0 : Int) < n by omega, show (n : Int) < 1073741824 by omega⟩, _, rfl, Int.ediv_nonneg y0 (by omega), hQ d hd⟩
end
def S__law_row : List Dat → (Dat → Prop) → Prop := fun ds P => ∃ o : List (Option Nat), ds = [outD o, nD o.length] ∧ o.length ≤ 64 ∧ P (outD o)
theorem len__law_row (ds : List Dat) (Q : Dat → Prop) (h : S__law_row ds Q) : ds.length = P__law_row.length := by
  obtain ⟨n, rfl, _⟩ := h; rfl
section
variable {P : Program} {w : World} {K : PySem.W.Frag} {mg : Str → Option Value} {base : Heap}
theorem ok__law_row (g : Fx K mg base) : FnOk P w K mg base L2.CX0 1 g.f__law_row g.fd__law_row P__law_row (spF 0 S__law_row) := by
  refine okD g.F__law_row sc__law_row len__law_row (fun cdv A outer s H E hr => ?_)
  have nd := (sc__law_row).nd
  refine ⟨_, SDs.cost (sds_cons (sd_if ((pwd_or (ptd_not (ptd_val (pd_callB call_isi cd_isi (by rfl) g.b_isinstance boot_isinstance (phd_cons ((pd_var (pv 0))).toSh (phd_cons ((pd_ty (pe_bltn (by rfl) g.b_tuple boot_tuple rfl))).toSh phd_nil))))) (pwd_or1 (ptd_cmp (op_neD (ru0 hr)) od_ne ((pd_callB call_lenA cd_len (by rfl) g.b_len boot_len (phd_cons ((pd_var (pv 0))).toSh phd_nil))).toSh ((pd_var (pv 1))).toSh (nomark _))))).pt (sds_cons (sd_ret (pd_op op_mulA od_mul ((pd_tup (pad_cons (pd_neg pd_int) pad_nil))).toSh ((pd_var (pv 1))).toSh)) sds_nil) sds_nil) (sds_cons (sd_ret (pd_callTy call_tuple_ofF cd_tup (by rfl) g.b_tuple boot_tuple (phd_cons ((pd_lc 1024 rfl nd (pid_tup (pd_var (pv 0))) (blkOk_by (own := [("one", 2)]) (by kernel_rfl)) (fun _ _ _ _ _ => (pgd_name (i := 2) nd rfl (by first | exact .inl rfl | exact .inr rfl))) (fun _ _ _ _ _ => ptsd_nil) (fun _ _ _ _ _ => (pd_if ((pwd_and (ptd_cmp op_isnA od_isn ((pd_var (pv 2))).toSh (pd_non).toSh (nomark _)) (pwd_and1 ((pwd_or (ptd_not (ptd_val (pd_callB call_isi cd_isi (by rfl) g.b_isinstance boot_isinstance (phd_cons ((pd_var (pv 2))).toSh (phd_cons ((pd_ty (pe_bltn (by rfl) g.b_int boot_int rfl))).toSh phd_nil))))) (pwd_or1 (ptd_val (pd_callB call_isi cd_isi (by rfl) g.b_isinstance boot_isinstance (phd_cons ((pd_var (pv 2))).toSh (phd_cons ((pd_ty (pe_bltn (by rfl) g.b_bool boot_bool rfl))).toSh phd_nil))))))).pt))).pt (pd_neg pd_int) (pd_var (pv 2)))))).toSh phd_nil))) sds_nil)) (by decide), fun ds Q h => ?_⟩
  obtain ⟨o, rfl, h1, hQ⟩ := h
  simp
  refine .inl ⟨by simp [nD], ?_⟩
  refine lc_tup o oD (fun x => some (oD x)) (fun P h => ⟨_, rfl, h⟩) (by omega) (fun x hx R hR => ?_) ?_
  · simp
    cases x with
    | none => simp [oD]; exact .inl ⟨rfl, hR⟩
    | some n => simpa [oD] using hR
  · rw [fm_map]
    exact hQ
end
theorem perm_take {L : List Nat} {d : Nat} (h : d < L.length) (F : List Nat) {N : List Nat} (hp : (F ++ L).Perm N) : ((F ++ [L[d]]) ++ L.eraseIdx d).Perm N := by
  refine List.Perm.trans ?_ hp
  rw [List.append_assoc]
  refine List.Perm.append_left F ?_
  have e : L.take d ++ L[d] :: L.drop (d + 1) = L := by simp
  rw [List.eraseIdx_eq_take_drop_succ]
  have q : (L.take d ++ L[d] :: L.drop (d + 1)).Perm (L[d] :: (L.take d ++ L.drop (d + 1))) := List.perm_middle
  rw [e] at q
  exact q.symm
def S__law_mixed : List Dat → (Dat → Prop) → Prop := fun ds P => ∃ n : Nat, ds = [.cell, nD n] ∧ n ≤ 60 ∧ ∀ r : List Nat, r.Perm (List.range n) → P (.lst (r.map nD))
theorem len__law_mixed (ds : List Dat) (Q : Dat → Prop) (h : S__law_mixed ds Q) : ds.length = P__law_mixed.length := by
  obtain ⟨n, rfl, _⟩ := h; rfl
section
variable {P : Program} {w : World} {K : PySem.W.Frag} {mg : Str → Option Value} {base : Heap}
theorem ok__law_mixed (g : Fx K mg base) : FnOk P w K mg base L2.CX0 2 g.f__law_mixed g.fd__law_mixed P__law_mixed (spF 100 S__law_mixed) := by
  refine okD g.F__law_mixed sc__law_mixed len__law_mixed (fun cdv A outer s H E hr => ?_)
  have nd := (sc__law_mixed).nd
  refine ⟨_, SDs.cost (sds_cons (sd_par (i := 2) (j := 3) (pmd_cons (m := .fr) (pd_lrange1 rfl (by rfl) g.b_list (by rfl) g.b_range (pd_var (pv 1))) (pmd_cons (m := .fr) (pd_lst pad_nil) pmd_nil)) rfl rfl nd rfl rfl (by decide) rfl rfl (by rfl)) (sds_cons (sd_while 64 PassesOwn.never (ptd_cmp (op_neD (ru0 hr)) od_ne (pd_varS (pv 2)) ((pd_lst pad_nil)).toSh (nomark _)) (sds_cons (sd_appPop (pv 3) (pv 2) (pd_call (ok__law_take g) (hr.mono (by decide)) (by rfl) g.g__law_take g.F__law_take.kp (b__law_take g) (pad_cons (pd_var (pv 0)) (pad_cons (pd_callB call_lenA cd_len (by rfl) g.b_len boot_len (phd_cons (pd_varS (pv 2)) phd_nil)) pad_nil)))) sds_nil)) (sds_cons (((sd_ret (pd_var (pv 3)))).frz 3) sds_nil))) (by decide), fun ds Q h => ?_⟩
  obtain ⟨n, rfl, h1, hQ⟩ := h
  simp
  refine ⟨by omega, ?_⟩
  refine ⟨fun m ε => ∃ L F : List Nat, m = L.length ∧ (F ++ L).Perm (List.range n) ∧ ε = [.val .cell, .val (nD n), .own (.lst (L.map nD)), .own (.lst (F.map nD))], ⟨n, by omega, List.range n, [], by simp, by simp, by simp [rng0]⟩, fun m ε ⟨L, F, hm, hp, hε⟩ => ?_⟩
  subst hε
  simp
  rw [eqD_lnil]
  cases L with
  | nil =>
    refine .inl ⟨rfl, hQ F ?_⟩
    simpa using hp
  | cons a L =>
    refine .inr ⟨by simp, ?_⟩
    have hl := hp.length_eq
    simp at hl
    refine ⟨(a :: L).length, rfl, by simp, by simp; omega, fun d hd => ?_⟩
    refine ⟨d, rfl, by simp at hd; omega, nD (a :: L)[d], ⟨_, List.getElem?_eq_getElem hd, rfl⟩, by omega, ((a :: L).eraseIdx d).length, by rw [hm, List.length_eraseIdx_of_lt hd]; simp, _, rfl, F ++ [(a :: L)[d]], perm_take hd F hp, by simp only [List.eraseIdx_eq_take_drop_succ, List.map_append, List.map_take, List.map_drop], by simp⟩
end
theorem no_non {r : List Nat} : ((r.map nD).any fun z => eqD z Dat.non) = false := by
  induction r with
  | nil => rfl
  | cons a r ih => rw [List.map_cons, List.any_cons, ih]; rfl
def S__law_prefers : List Dat → (Dat → Prop) → Prop := fun ds P => (∃ (r : List Nat) (a : Nat) (o : Option Nat), ds = [rk r, nD a, oD o] ∧ (a ∈ r → ∀ b, o = some b → b ∈ r) ∧ P (.bl (decide (a ∈ r) && abB r a o))) ∨ ∃ (r : List Nat) (o : Option Nat), ds = [rk r, .non, oD o] ∧ P (.bl false)
theorem len__law_prefers (ds : List Dat) (Q : Dat → Prop) (h : S__law_prefers ds Q) : ds.length = P__law_prefers.length := by
  rcases h with ⟨r, a, o, rfl, _⟩ | ⟨r, o, rfl, _⟩ <;> rfl
section
variable {P : Program} {w : World} {K : PySem.W.Frag} {mg : Str → Option Value} {base : Heap}
theorem ok__law_prefers (g : Fx K mg base) : FnOk P w K mg base L2.CX0 1 g.f__law_prefers g.fd__law_prefers P__law_prefers (spF 0 S__law_prefers) := by
  refine okD g.F__law_prefers sc__law_prefers len__law_prefers (fun cdv A outer s H E hr => ?_)
  have nd := (sc__law_prefers).nd
  refine ⟨_, SDs.cost (sds_cons (sd_ret (pd_and (pd_cmp (op_inA (ru hr)) od_in ((pd_var (pv 1))).toSh ((pd_var (pv 0))).toSh (by with_unfolding_all rfl)) (pd_one (pd_or (pd_cmp op_isA od_is ((pd_var (pv 2))).toSh (pd_non).toSh (nomark _)) (pd_one (pd_cmp op_lt od_C ((pd_tindex (pd_var (pv 0)) (pd_var (pv 1)))).toSh ((pd_tindex (pd_var (pv 0)) (pd_var (pv 2)))).toSh (nomark _))))))) sds_nil) (by decide), fun ds Q h => ?_⟩
  rcases h with ⟨r, a, o, rfl, h1, h3⟩ | ⟨r, o, rfl, h3⟩
  rotate_left
  · simp
    refine ⟨rfl, all_flat_nD, ?_⟩
    rw [no_non]
    exact .inl ⟨rfl, h3⟩
  simp
  by_cases h : a ∈ r
  · simp only [h, decide_true, Bool.true_and] at h3
    cases o with
    | none => exact .inr ⟨by simpa using h, .inr ⟨rfl, h3⟩⟩
    | some b =>
      obtain ⟨g1, g2⟩ := dTIx_at h
      obtain ⟨g3, g4⟩ := dTIx_at (h1 h b rfl)
      refine .inr ⟨by simpa using h, .inl ⟨rfl, _, rfl, by simp, ixo r a, nD a, g1, by simp, g2, _, rfl, by simp, ixo r b, nD b, g3, by simp [oD], g4, h3⟩⟩
  · refine .inl ⟨by simpa using h, by simpa [h] using h3⟩
end
theorem rk_perm {n : Nat} {r : List Nat} (h : r.Perm (List.range n)) (hn : n ≤ 20) : RkOk n r ∧ r.length = n := by
  refine ⟨⟨h.symm.nodup List.nodup_range, fun x hx => List.mem_range.mp (h.subset hx), hn⟩, ?_⟩
  rw [h.length_eq, List.length_range]
/-- rankings as they are drawn -/
def Drawn (n m : Nat) (full : Bool) (rs : List (List Nat)) : Prop := rs.length = n ∧ (∀ r ∈ rs, RkOk m r) ∧ (full = true → ∀ r ∈ rs, r.Perm (List.range m))
def S__law_rankings : List Dat → (Dat → Prop) → Prop := fun ds P => ∃ (n m : Nat) (full : Bool), ds = [.cell, nD n, nD m, .bl full] ∧ n ≤ 60 ∧ 0 < m ∧ m ≤ 20 ∧ ∀ rs, Drawn n m full rs → P (rks rs)
theorem len__law_rankings (ds : List Dat) (Q : Dat → Prop) (h : S__law_rankings ds Q) : ds.length = P__law_rankings.length := by
  obtain ⟨n, m, f, rfl, _⟩ := h; rfl
section
variable {P : Program} {w : World} {K : PySem.W.Frag} {mg : Str → Option Value} {base : Heap}
theorem ok__law_rankings (g : Fx K mg base) : FnOk P w K mg base L2.CX0 3 g.f__law_rankings g.fd__law_rankings P__law_rankings (spF 10000 S__law_rankings) := by
  refine okD g.F__law_rankings sc__law_rankings len__law_rankings (fun cdv A outer s H E hr => ?_)
  have nd := (sc__law_rankings).nd
  refine ⟨_, SDs.cost (sds_cons (sd_asgO (i := 4) (pd_lst pad_nil) nd rfl (.inl rfl)) (sds_cons (sd_for 64 PassesOwn.never rfl (pid_range1 (by rfl) g.b_range (pad_cons (pd_var (pv 1)) pad_nil)) (pgd_name (i := 5) nd rfl (.inl rfl)) (sds_cons (sd_asg (i := 6) (pd_call (ok__law_mixed g) (hr.mono (by decide)) (by rfl) g.g__law_mixed g.F__law_mixed.kp (b__law_mixed g) (pad_cons (pd_var (pv 0)) (pad_cons (pd_var (pv 2)) pad_nil))) nd rfl (.inl rfl)) (sds_cons (sd_app (pv 4) (pd_callTy call_tuple_ofF cd_tup (by rfl) g.b_tuple boot_tuple (phd_cons ((pd_if (ptd_val (pd_var (pv 3))) (pd_var (pv 6)) (pd_slice ((pd_var (pv 6))).toSh pod_none (pod_some (pd_op op_sub od_I0 ((pd_var (pv 2))).toSh ((pd_call (ok__law_take g) (hr.mono (by decide)) (by rfl) g.g__law_take g.F__law_take.kp (b__law_take g) (pad_cons (pd_var (pv 0)) (pad_cons (pd_callB (call_minA rfl) cd_min (by rfl) g.b_min boot_min (phd_cons (pd_int).toSh (phd_cons ((pd_var (pv 2))).toSh phd_nil))) pad_nil)))).toSh))))).toSh phd_nil))) sds_nil))) (sds_cons (sd_ret (pd_callTy call_tuple_ofF cd_tup (by rfl) g.b_tuple boot_tuple (phd_cons (pd_varS (pv 4)) phd_nil))) sds_nil))) (by decide), fun ds Q h => ?_⟩
  obtain ⟨n, m, full, rfl, h1, h2, h3, hQ⟩ := h
  simp
  refine for_r1 (n := n) (fun P h => ⟨_, rfl, h⟩) (by omega) (by omega) (fun i ε => ∃ (rs : List (List Nat)) (x5 x6 : Sl), Drawn i m full rs ∧ ε = [.val .cell, .val (nD n), .val (nD m), .val (.bl full), .own (.lst (rs.map rk)), x5, x6]) ⟨[], .off, .off, ⟨rfl, by simp, by simp⟩, rfl⟩ (fun i ε hi ⟨rs, x5, x6, hd, hε⟩ => ?_) (fun ε ⟨rs, x5, x6, hd, hε⟩ => ?_)
  · subst hε
    simp
    refine ⟨m, rfl, by omega, fun r hr => ?_⟩
    obtain ⟨r1, r2⟩ := rk_perm hr h3
    have put : ∀ k : List Nat, RkOk m k → (full = true → k.Perm (List.range m)) → rs.length < 100000 ∧ ∃ rs_1, Drawn (i + 1) m full rs_1 ∧ List.map rk rs ++ [rk k] = List.map rk rs_1 := fun k k1 k2 => by
      obtain ⟨d1, d2, d3⟩ := hd
      refine ⟨by omega, rs ++ [k], ⟨by simp [d1], fun r hr => ?_, fun hf r hr => ?_⟩, by simp⟩
      · rcases List.mem_append.mp hr with h | h
        · exact d2 r h
        · rw [List.mem_singleton.mp h]; exact k1
      · rcases List.mem_append.mp hr with h | h
        · exact d3 hf r h
        · rw [List.mem_singleton.mp h]; exact k2 hf
    cases full with
    | true => exact .inr ⟨rfl, put r r1 fun _ => hr⟩
    | false =>
      refine .inl ⟨rfl, ?_⟩
      have e3 : (if (m : Int) < 3 then (m : Int) else 3) = ((if m < 3 then m else 3 : Nat) : Int) := by split <;> split <;> omega
      have o2 : ∀ R, fMin [Dat.int 3, nD m] R = R (.int (if (m : Int) < 3 then (m : Int) else 3)) := fun R => o_Min2
      rw [o2, e3]
      refine ⟨if m < 3 then m else 3, rfl, by split <;> omega, by split <;> omega, fun d hdd => ?_⟩
      have hdm : d < m := by split at hdd <;> omega
      refine ⟨trivial, ((m - d : Nat) : Int), ?_, ?_⟩
      · show Dat.int ((m : Int) - d) = _
        congr 1
        omega
      · have o3 : ∀ R, fSl (Dat.lst (r.map nD)) none (some ((m - d : Nat) : Int)) R = R (.lst ((r.take (m - d)).map nD)) := fun R => by
          rw [o_SlL, cutT, ← List.map_take]
        rw [o3]
        refine put (r.take (m - d)) ⟨r1.1.sublist (List.take_sublist _ _), fun x hx => r1.2.1 x (List.mem_of_mem_take hx), r1.2.2⟩ fun h => by cases h
  · subst hε
    simp
    exact hQ rs hd
end
end K92
set_option maxRecDepth 100000
set_option maxHeartbeats 1000000
namespace K92
open PySem PySem.Spec PyProof.Rows L2 RZ DL LamX
open C8 (call_isC pe_gc InsC)
open M90
variable [TabC]
/-- a pairing's block, as the law counts it -/
def PBlk (A B : List (List Nat)) (o : List (Option Nat)) (l r : Nat) : Prop := l < A.length ∧ r ∈ row A l ∧ l ∈ row B r ∧ abB (row A l) r (oat o l) = true ∧ abB (row B r) l (memb o r).head? = true
structure Pairs (A B : List (List Nat)) (o : List (Option Nat)) : Prop where
  len : o.length = A.length
  fit : ∀ l r, oat o l = some r → l < A.length ∧ r < B.length ∧ r ∈ row A l ∧ l ∈ row B r
theorem memb_head {o : List (Option Nat)} {r b : Nat} (h : (memb o r).head? = some b) : oat o b = some r := mem_memb.mp (List.mem_of_head? h)
def wb_Iv (A B : List (List Nat)) (o : List (Option Nat)) (i : Nat) (ε : Ev) : Prop := ∃ x3 x4 x5 x6 : Sl, ε = [.val (rks A), .val (rks B), .val (outD o), x3, x4, x5, x6] ∧ ∀ l r, l < i → ¬ PBlk A B o l r
def wb_Iw (A B : List (List Nat)) (o : List (Option Nat)) (i : Nat) (j : Nat) (ε : Ev) : Prop := ∃ x4 x5 x6 : Sl, ε = [.val (rks A), .val (rks B), .val (outD o), .val (nD i), x4, x5, x6] ∧ (∀ l r, l < i → ¬ PBlk A B o l r) ∧ ∀ r ∈ (row A i).take j, ¬ PBlk A B o i r
def S__law_blocks : List Dat → (Dat → Prop) → Prop := fun ds P => ∃ (A B : List (List Nat)) (o : List (Option Nat)), ds = [rks A, rks B, outD o] ∧ SidesOk A B ∧ Pairs A B o ∧ ∀ b : Bool, (b = true ↔ ∃ l r, PBlk A B o l r) → P (.bl b)
theorem len__law_blocks (ds : List Dat) (Q : Dat → Prop) (h : S__law_blocks ds Q) : ds.length = P__law_blocks.length := by
  obtain ⟨n, m, f, rfl, _⟩ := h; rfl
section
variable {P : Program} {w : World} {K : PySem.W.Frag} {mg : Str → Option Value} {base : Heap}
theorem ok__law_blocks (g : Fx K mg base) : FnOk P w K mg base L2.CX0 2 g.f__law_blocks g.fd__law_blocks P__law_blocks (spF 0 S__law_blocks) := by
  refine okD g.F__law_blocks sc__law_blocks len__law_blocks (fun cdv A outer s H E hr => ?_)
  have nd := (sc__law_blocks).nd
  refine ⟨_, SDs.cost (sds_cons (sd_for 1024 PassesOwn.never rfl (pid_range1 (by rfl) g.b_range (pad_cons (pd_callB call_lenA cd_len (by rfl) g.b_len boot_len (phd_cons ((pd_var (pv 0))).toSh phd_nil)) pad_nil)) (pgd_name (i := 3) nd rfl (.inl rfl)) (sds_cons (sd_for 1024 PassesOwn.never rfl (pid_tup (pd_ix (ix_all (ru1 hr)) od_ix ((pd_var (pv 0))).toSh ((pd_var (pv 3))).toSh (fun _ _ => rfl))) (pgd_name (i := 4) nd rfl (.inr rfl)) (sds_cons (sd_setLc (i := 5) 1024 rfl nd rfl rfl (by rfl) (pid_range1 (by rfl) g.b_range (pad_cons (pd_callB call_lenA cd_len (by rfl) g.b_len boot_len (phd_cons ((pd_var (pv 0))).toSh phd_nil)) pad_nil)) (blkOk_by (own := [("other", 6)]) (by kernel_rfl)) (fun _ _ _ _ _ => (pgd_name (i := 6) nd rfl (by first | exact .inl rfl | exact .inr rfl))) (fun _ _ _ _ _ => (ptsd_one (ptd_cmp (op_eqD (ru0 hr)) od_eq ((pd_ix (ix_all (ru1 hr)) od_ix ((pd_var (pv 2))).toSh ((pd_var (pv 6))).toSh (fun _ _ => rfl))).toSh ((pd_var (pv 4))).toSh (nomark _)))) (fun _ _ _ _ _ => (pd_var (pv 6)))) (sds_cons (((sd_if ((pwd_and (ptd_cmp (op_inA (ru hr)) od_in ((pd_var (pv 3))).toSh ((pd_ix (ix_all (ru1 hr)) od_ix ((pd_var (pv 1))).toSh ((pd_var (pv 4))).toSh (fun _ _ => rfl))).toSh (by with_unfolding_all rfl)) (pwd_and (ptd_val (pd_call (ok__law_prefers g) (hr.mono (by decide)) (by rfl) g.g__law_prefers g.F__law_prefers.kp (b__law_prefers g) (pad_cons (pd_ix (ix_all (ru1 hr)) od_ix ((pd_var (pv 0))).toSh ((pd_var (pv 3))).toSh (fun _ _ => rfl)) (pad_cons (pd_var (pv 4)) (pad_cons (pd_ix (ix_all (ru1 hr)) od_ix ((pd_var (pv 2))).toSh ((pd_var (pv 3))).toSh (fun _ _ => rfl)) pad_nil))))) (pwd_and1 (ptd_val (pd_call (ok__law_prefers g) (hr.mono (by decide)) (by rfl) g.g__law_prefers g.F__law_prefers.kp (b__law_prefers g) (pad_cons (pd_ix (ix_all (ru1 hr)) od_ix ((pd_var (pv 1))).toSh ((pd_var (pv 4))).toSh (fun _ _ => rfl)) (pad_cons (pd_var (pv 3)) (pad_cons (pd_if (ptd_cmp (op_neD (ru0 hr)) od_ne ((pd_var (pv 5))).toSh ((pd_lst pad_nil)).toSh (nomark _)) (pd_ix (ix_all (ru1 hr)) od_ix ((pd_var (pv 5))).toSh (pd_int).toSh (fun _ _ => rfl)) pd_non) pad_nil))))))))).pt (sds_cons (sd_ret pd_bl) sds_nil) sds_nil)).frz 5) sds_nil))) sds_nil)) (sds_cons (sd_ret pd_bl) sds_nil)) (by decide), fun ds Q h => ?_⟩
  obtain ⟨A, B, o, rfl, hs, io, hQ⟩ := h
  have hn : A.length ≤ 20 := hs.1.2.1
  have hm : B.length ≤ 20 := hs.2.1.2.1
  have ho := io.len
  simp
  refine for_r1 (n := A.length) (fun P h => by simpa using h) (by omega) (by omega) (wb_Iv A B o) ⟨.off, .off, .off, .off, rfl, by simp⟩ (fun i ε hi ⟨x3, x4, x5, x6, hε, hb⟩ => ?_) (fun ε ⟨x3, x4, x5, x6, hε, hb⟩ => ?_)
  · subst hε
    have hrow := hs.1.2.2 _ (row_mem hi)
    simp
    refine for_tup (ds := (row A i).map nD) (fun P h => ⟨_, rfl, _, rfl, Eq.mpr (fIx_rks hi) h⟩) (by have := hrow.len; simp; omega) (wb_Iw A B o i) ⟨x4, x5, x6, rfl, hb, by simp⟩ (fun j d ε hd ⟨x4, x5, x6, hε, hb, hc⟩ => ?_) (fun ε ⟨x4, x5, x6, hε, hb, hc⟩ => ?_)
    · obtain ⟨hj, hj2, rfl⟩ := map_nD_get hd
      subst hε
      generalize hr0 : at0 (row A i) j = r at *
      have hrl : r ∈ row A i := List.mem_of_getElem? hj2
      have hrm : r < B.length := hs.2.2 _ (row_mem hi) r hrl
      simp
      refine lc_r1 (n := A.length) (fun l => if decide (oat o l = some r) = true then some (nD l) else none) (fun P h => by simpa using h) (by omega) (by omega) (fun l hl R hR => ?_) ?_
      · simp
        have q1 : ∀ R, fIx (outD o) (Dat.int (l : Int)) R = R (oD (oat o l)) := fun R => fIx_out (by omega)
        rw [q1]
        refine ⟨pl_oD, ?_⟩
        rw [eqD_on]
        by_cases e : oat o l = some r
        · rw [if_pos (by simpa using e)] at hR
          exact .inr ⟨by simpa using e, hR⟩
        · rw [if_neg (by simpa using e)] at hR
          exact .inl ⟨by simpa using e, hR⟩
      · rw [fm_if, show (List.range A.length).filter (fun l => decide (oat o l = some r)) = memb o r by unfold memb; rw [ho]]
        simp
        have step : ∀ x6 : Sl, ¬ PBlk A B o i r → wb_Iw A B o i (j + 1) [Sl.val (rks A), Sl.val (rks B), Sl.val (outD o), Sl.val (nD i), Sl.val (nD r), Sl.val (Dat.lst (List.map nD (memb o r))), x6] := fun x6 hnb => by
          refine ⟨_, _, _, rfl, hb, fun q hq => ?_⟩
          rw [List.take_add_one, hj2] at hq
          rcases List.mem_append.mp hq with hq | hq
          · exact hc q hq
          · have : q = r := by simpa using hq
            rw [this]; exact hnb
        rw [fIx_rks hrm, fIn_rk]
        by_cases h1 : i ∈ row B r
        · refine .inr ⟨by simp [h1], ?_⟩
          rw [fIx_rks hi, fIx_out (by omega)]
          refine .inl ⟨row A i, r, oat o i, rfl, fun _ b hb => (io.fit i b hb).2.2.1, ?_⟩
          by_cases h2 : abB (row A i) r (oat o i) = true
          · refine .inr ⟨by simp [hrl, h2], ?_⟩
            rw [fIx_rks hrm]
            have fin : ∀ oh : Option Nat, (memb o r).head? = oh → S__law_prefers [rk (row B r), nD i, oD oh] fun d => d = Dat.bl false ∧ wb_Iw A B o i (j + 1) [Sl.val (rks A), Sl.val (rks B), Sl.val (outD o), Sl.val (nD i), Sl.val (nD r), Sl.val (Dat.lst (List.map nD (memb o r))), x6] ∨ d = Dat.bl true ∧ Q (Dat.bl true) := fun oh eh => by
              refine .inl ⟨row B r, i, oh, rfl, fun _ b hb => (io.fit b r (memb_head (eh.trans hb))).2.2.2, ?_⟩
              by_cases h3 : abB (row B r) i oh = true
              · refine .inr ⟨by simp [h1, h3], hQ true ⟨fun _ => ⟨i, r, hi, hrl, h1, h2, by rw [eh]; exact h3⟩, fun _ => rfl⟩⟩
              · refine .inl ⟨by simp [h3], step _ fun hB => h3 ?_⟩
                have := hB.2.2.2.2
                rwa [eh] at this
            rw [eqD_lnil]
            cases e : memb o r with
            | nil =>
              rw [e] at fin
              exact .inl ⟨by simp, fin none rfl⟩
            | cons z zs =>
              rw [e] at fin
              exact .inr ⟨by simp, nD z, show atI _ ((0 : Nat) : Int) = _ from atI_nat rfl, fin (some z) rfl⟩
          · exact .inl ⟨by simp [h2], step _ fun hB => h2 hB.2.2.2.1⟩
        · exact .inl ⟨by simp [h1], step _ fun hB => h1 hB.2.2.1⟩
    · subst hε
      rw [List.length_map, List.take_length] at hc
      refine ⟨_, _, x5, x6, rfl, fun l r hlr hB => ?_⟩
      by_cases e : l = i
      · subst e
        exact hc r hB.2.1 hB
      · exact hb l r (by omega) hB
  · subst hε
    simp
    refine hQ false ⟨fun h => (by cases h), fun ⟨l, r, h⟩ => (hb l r h.1 h).elim⟩
end
def moreSeat (V : PL) (r : Nat) : PL := { V with seats := V.seats.set r (at0 V.seats r + 1) }
theorem moreSeat_ok {V : PL} (ok : V.Ok) {r : Nat} (hr : r < V.rights.length) (hs : at0 V.seats r < 20) : (moreSeat V r).Ok where
  sd := ok.sd
  se := ⟨by simp [moreSeat]; exact ok.se.1, fun x hx => by
    rcases List.mem_or_eq_of_mem_set hx with h | h
    · exact ok.se.2 x h
    · omega⟩
  gr := ok.gr
  li := ok.li
theorem enum_nD {r : List Nat} : enumD (r.map nD) = (List.range r.length).map fun i => .tup [nD i, nD (at0 r i)] := by
  apply List.ext_getElem?
  intro i
  rw [enumD_get, List.getElem?_map, List.getElem?_map]
  by_cases h : i < r.length
  · simp [h, at0, nD]
  · simp [h]
theorem seats_map {V : PL} {r : Nat} (h : r < V.seats.length) : (List.range V.seats.length).map (fun i => nD (at0 V.seats i + if i = r then 1 else 0)) = (moreSeat V r).seats.map nD := by
  apply List.ext_getElem?
  intro i
  simp only [moreSeat, List.getElem?_map]
  by_cases hi : i < V.seats.length
  · by_cases e : i = r
    · subst e; simp [hi]
    · have : r ≠ i := fun q => e q.symm
      rw [List.getElem?_set_ne this, at0_get hi]
      simp [hi, e]
  · simp [hi]
def Z_with_seat (C : Addr) : List Dat → (Dat → Prop) → Prop := fun ds P => ∃ (V : PL) (r : Nat), ds = [pPl C V, nD r] ∧ V.Ok ∧ r < V.rights.length ∧ at0 V.seats r < 20 ∧ P (pPl C (moreSeat V r))
def lieV (V : PL) (l : Nat) (k : List Nat) : PL := { V with lefts := V.lefts.set l k }
theorem lieV_ok {V : PL} (ok : V.Ok) {l : Nat} {k : List Nat} (hk : RkOk V.rights.length k) : (lieV V l k).Ok where
  sd := by
    obtain ⟨h1, h2, h3⟩ := ok.sd
    have hm := h2.2.1
    refine ⟨⟨by simp [lieV]; exact h1.1, by simp [lieV]; exact h1.2.1, fun r hr => ?_⟩, by simp [lieV]; exact h2, fun r hr x hx => ?_⟩
    · rcases List.mem_or_eq_of_mem_set hr with h | h
      · exact h1.2.2 r h
      · subst h
        exact ⟨hk.1, fun x hx => by have := hk.2.1 x hx; omega, by omega⟩
    · rcases List.mem_or_eq_of_mem_set hr with h | h
      · exact h3 r h x hx
      · subst h
        exact hk.2.1 x hx
  se := ok.se
  gr := by simp [lieV]; exact ok.gr
  li := ok.li
def Z_by_lie (C : Addr) : List Dat → (Dat → Prop) → Prop := fun ds P => ∃ (V : PL) (l : Nat) (k : List Nat), ds = [pPl C V, nD l, rk k] ∧ V.Ok ∧ l < V.lefts.length ∧ RkOk V.rights.length k ∧
  ∀ o o', IsOut V o → (∀ l r, ¬ Blk V o l r) → BestP V o → IsOut (lieV V l k) o' → (∀ a r, ¬ Blk (lieV V l k) o' a r) → BestP (lieV V l k) o' → P (.tup [oD (oat o l), oD (oat o' l)])
def goodD : Nat → Dat → Prop
  | 0, d => d = .non ∨ (∃ b, d = .bl b) ∨ ∃ i, d = .int i
  | n + 1, d => (d = .non ∨ (∃ b, d = .bl b) ∨ ∃ i, d = .int i) ∨ ∃ xs, (d = .tup xs ∨ d = .lst xs) ∧ xs.length ≤ 100 ∧ ∀ x ∈ xs, goodD n x
def orD : Option (List Nat) → Dat
  | none => .non
  | some r => rk r
theorem same_ext {a b : List Nat} (h : a.length = b.length) : a = b ↔ ∀ k, k < b.length → at0 a k = at0 b k := by
  constructor
  · rintro rfl k _; rfl
  · intro hk
    apply List.ext_getElem h
    intro i h1 h2
    have := hk i h2
    simpa [at0, h1, h2] using this
theorem fm_nil {n : Nat} {p : Nat → Bool} {F : Nat → Dat} : ((List.range n).filterMap fun k => if p k = true then some (F k) else none) = [] ↔ ∀ k, k < n → p k = false := by
  rw [DL.fm_if, List.map_eq_nil_iff, List.filter_eq_nil_iff]
  simp
def S_same : Nat → List Dat → (Dat → Prop) → Prop
  | 0, _, _ => False
  | n + 1, ds, P => (∃ d, ds = [d, d] ∧ goodD n d ∧ P (.bl true)) ∨ (∃ xs, ds = [.lst xs, .lst []] ∧ P (.bl (decide (xs = [])))) ∨ (∃ a b : Nat, ds = [nD a, nD b] ∧ P (.bl (decide (a = b)))) ∨
    (1 ≤ n ∧ ∃ (o : Option (List Nat)) (r : List Nat), ds = [orD o, rk r] ∧ r.length ≤ 100 ∧ P (.bl (decide (o = some r))))
theorem len_same (n : Nat) (ds : List Dat) (Q : Dat → Prop) (h : S_same (n + 1) ds Q) : ds.length = P__law_same.length := by
  rcases h with ⟨d, rfl, _⟩ | ⟨xs, rfl, _⟩ | ⟨a, b, rfl, _⟩ | ⟨_, o, r, rfl, _⟩ <;> rfl
theorem fm_none {α β : Type} (l : List α) : (l.filterMap fun _ => (none : Option β)) = [] := by
  induction l with
  | nil => rfl
  | cons a l ih => simp
theorem ok_never {P : Program} {w : World} {K : PySem.W.Frag} {mg : Str → Option Value} {base : Heap} {f : Addr} {fd : FuncData} {ps : List Str} : FnOk P w K mg base L2.CX0 0 f fd ps (spF 0 (S_same 0)) :=
  ⟨fun vs H Q E ⟨_, _, _, _, _, _, _, _, _, _, h, _⟩ => h.elim, fun A outer s H args us vs Q E _ _ _ _ ⟨_, _, _, _, _, _, _, _, _, _, h, _⟩ => h.elim⟩
section
variable {P : Program} {w : World} {K : PySem.W.Frag} {mg : Str → Option Value} {base : Heap}
theorem ok_same (g : Fx K mg base) : ∀ n, FnOk P w K mg base L2.CX0 n g.f__law_same g.fd__law_same P__law_same (spF 0 (S_same n)) := by
  intro n
  induction n with
  | zero => exact ok_never
  | succ n ih =>
  skip
  refine okD g.F__law_same sc__law_same (len_same n) (fun cdv A outer s H E hr => ?_)
  have nd := (sc__law_same).nd
  refine ⟨_, SDs.cost (sds_cons (sd_if ((pwd_or (ptd_cmp op_isA od_is ((pd_var (pv 1))).toSh (pd_non).toSh (nomark _)) (pwd_or1 (ptd_val (pd_callB call_isi cd_isi (by rfl) g.b_isinstance boot_isinstance (phd_cons ((pd_var (pv 1))).toSh (phd_cons ((pd_ty (pe_bltn (by rfl) g.b_bool boot_bool rfl))).toSh phd_nil))))))).pt (sds_cons (sd_ret (pd_if (ptd_cmp op_isA od_is ((pd_var (pv 1))).toSh (pd_non).toSh (nomark _)) (pd_cmp op_isA od_is ((pd_var (pv 0))).toSh (pd_non).toSh (nomark _)) (pd_and (pd_callB call_isi cd_isi (by rfl) g.b_isinstance boot_isinstance (phd_cons ((pd_var (pv 0))).toSh (phd_cons ((pd_ty (pe_bltn (by rfl) g.b_bool boot_bool rfl))).toSh phd_nil))) (pd_one (pd_cmp (op_eqD (ru0 hr)) od_eq ((pd_cmp op_isA od_is ((pd_var (pv 0))).toSh (pd_bl).toSh (nomark _))).toSh ((pd_cmp op_isA od_is ((pd_var (pv 1))).toSh (pd_bl).toSh (nomark _))).toSh (nomark _)))))) sds_nil) sds_nil) (sds_cons (sd_if (ptd_val (pd_callB call_isi cd_isi (by rfl) g.b_isinstance boot_isinstance (phd_cons ((pd_var (pv 1))).toSh (phd_cons ((pd_ty (pe_bltn (by rfl) g.b_int boot_int rfl))).toSh phd_nil)))) (sds_cons (sd_ret (pd_and (pd_callB call_isi cd_isi (by rfl) g.b_isinstance boot_isinstance (phd_cons ((pd_var (pv 0))).toSh (phd_cons ((pd_ty (pe_bltn (by rfl) g.b_int boot_int rfl))).toSh phd_nil))) (pd_and (pd_not (pd_callB call_isi cd_isi (by rfl) g.b_isinstance boot_isinstance (phd_cons ((pd_var (pv 0))).toSh (phd_cons ((pd_ty (pe_bltn (by rfl) g.b_bool boot_bool rfl))).toSh phd_nil)))) (pd_one (pd_cmp (op_eqD (ru0 hr)) od_eq ((pd_op op_sub od_I0 ((pd_callTy call_int1 cd_int (by rfl) g.b_int boot_int (phd_cons ((pd_var (pv 0))).toSh phd_nil))).toSh ((pd_var (pv 1))).toSh)).toSh (pd_int).toSh (nomark _)))))) sds_nil) sds_nil) (sds_cons (sd_if (ptd_val (pd_callB call_isi cd_isi (by rfl) g.b_isinstance boot_isinstance (phd_cons ((pd_var (pv 1))).toSh (phd_cons ((pd_ty (pe_bltn (by rfl) g.b_str boot_str rfl))).toSh phd_nil)))) (sds_cons (sd_ret (pd_and (pd_callB call_isi cd_isi (by rfl) g.b_isinstance boot_isinstance (phd_cons ((pd_var (pv 0))).toSh (phd_cons ((pd_ty (pe_bltn (by rfl) g.b_str boot_str rfl))).toSh phd_nil))) (pd_and (pd_cmp (op_eqD (ru0 hr)) od_eq ((pd_callB call_lenA cd_len (by rfl) g.b_len boot_len (phd_cons ((pd_var (pv 0))).toSh phd_nil))).toSh ((pd_callB call_lenA cd_len (by rfl) g.b_len boot_len (phd_cons ((pd_var (pv 1))).toSh phd_nil))).toSh (nomark _)) (pd_one (pd_cmp (op_eqD (ru0 hr)) od_eq ((pd_lc 1024 rfl nd (pid_range1 (by rfl) g.b_range (pad_cons (pd_callB call_lenA cd_len (by rfl) g.b_len boot_len (phd_cons ((pd_var (pv 1))).toSh phd_nil)) pad_nil)) (blkOk_by (own := [("k", 2)]) (by kernel_rfl)) (fun _ _ _ _ _ => (pgd_name (i := 2) nd rfl (by first | exact .inl rfl | exact .inr rfl))) (fun _ _ _ _ _ => (ptsd_one (ptd_cmp (op_neD (ru0 hr)) od_ne ((pd_ix (ix_all (ru1 hr)) od_ix ((pd_var (pv 0))).toSh ((pd_var (pv 2))).toSh (fun _ _ => rfl))).toSh ((pd_ix (ix_all (ru1 hr)) od_ix ((pd_var (pv 1))).toSh ((pd_var (pv 2))).toSh (fun _ _ => rfl))).toSh (nomark _)))) (fun _ _ _ _ _ => (pd_var (pv 2))))).toSh ((pd_lst pad_nil)).toSh (nomark _)))))) sds_nil) sds_nil) (sds_cons (sd_if ((pwd_or (ptd_not (ptd_val (pd_callB call_isiTF cd_isi2 (by rfl) g.b_isinstance boot_isinstance (phd_cons ((pd_var (pv 1))).toSh (phd_cons ((pd_tup (pad_cons (pd_ty (pe_bltn (by rfl) g.b_list boot_list rfl)) (pad_cons (pd_ty (pe_bltn (by rfl) g.b_tuple boot_tuple rfl)) pad_nil)))).toSh phd_nil))))) (pwd_or1 (ptd_not (ptd_val (pd_callB call_isiTF cd_isi2 (by rfl) g.b_isinstance boot_isinstance (phd_cons ((pd_var (pv 0))).toSh (phd_cons ((pd_tup (pad_cons (pd_ty (pe_bltn (by rfl) g.b_list boot_list rfl)) (pad_cons (pd_ty (pe_bltn (by rfl) g.b_tuple boot_tuple rfl)) pad_nil)))).toSh phd_nil)))))))).pt (sds_cons (sd_ret (pd_and (pd_callB call_isi cd_isi (by rfl) g.b_isinstance boot_isinstance (phd_cons ((pd_var (pv 1))).toSh (phd_cons ((pd_ty (pe_bltn (by rfl) g.b_dict boot_dict rfl))).toSh phd_nil))) (pd_and (pd_callB call_isi cd_isi (by rfl) g.b_isinstance boot_isinstance (phd_cons ((pd_var (pv 0))).toSh (phd_cons ((pd_ty (pe_bltn (by rfl) g.b_dict boot_dict rfl))).toSh phd_nil))) (pd_one (pd_cmp (op_eqD (ru0 hr)) od_eq ((pd_callB call_lenA cd_len (by rfl) g.b_len boot_len (phd_cons ((pd_var (pv 0))).toSh phd_nil))).toSh ((pd_callB call_lenA cd_len (by rfl) g.b_len boot_len (phd_cons ((pd_var (pv 1))).toSh phd_nil))).toSh (nomark _)))))) sds_nil) sds_nil) (sds_cons (sd_if ((pwd_or (ptd_cmp (op_neD (ru0 hr)) od_ne ((pd_callB call_isi cd_isi (by rfl) g.b_isinstance boot_isinstance (phd_cons ((pd_var (pv 0))).toSh (phd_cons ((pd_ty (pe_bltn (by rfl) g.b_list boot_list rfl))).toSh phd_nil)))).toSh ((pd_callB call_isi cd_isi (by rfl) g.b_isinstance boot_isinstance (phd_cons ((pd_var (pv 1))).toSh (phd_cons ((pd_ty (pe_bltn (by rfl) g.b_list boot_list rfl))).toSh phd_nil)))).toSh (nomark _)) (pwd_or1 (ptd_cmp (op_neD (ru0 hr)) od_ne ((pd_callB call_lenA cd_len (by rfl) g.b_len boot_len (phd_cons ((pd_var (pv 0))).toSh phd_nil))).toSh ((pd_callB call_lenA cd_len (by rfl) g.b_len boot_len (phd_cons ((pd_var (pv 1))).toSh phd_nil))).toSh (nomark _))))).pt (sds_cons (sd_ret pd_bl) sds_nil) sds_nil) (sds_cons (sd_ret (pd_cmp (op_eqD (ru0 hr)) od_eq ((pd_lc 1024 rfl nd (pid_range1 (by rfl) g.b_range (pad_cons (pd_callB call_lenA cd_len (by rfl) g.b_len boot_len (phd_cons ((pd_var (pv 1))).toSh phd_nil)) pad_nil)) (blkOk_by (own := [("k", 2)]) (by kernel_rfl)) (fun _ _ _ _ _ => (pgd_name (i := 2) nd rfl (by first | exact .inl rfl | exact .inr rfl))) (fun _ _ _ _ _ => (ptsd_one (ptd_not (ptd_val (pd_call ih hr (by rfl) g.g__law_same g.F__law_same.kp (b__law_same g) (pad_cons (pd_ix (ix_all (ru1 hr)) od_ix ((pd_var (pv 0))).toSh ((pd_var (pv 2))).toSh (fun _ _ => rfl)) (pad_cons (pd_ix (ix_all (ru1 hr)) od_ix ((pd_var (pv 1))).toSh ((pd_var (pv 2))).toSh (fun _ _ => rfl)) pad_nil))))))) (fun _ _ _ _ _ => (pd_var (pv 2))))).toSh ((pd_lst pad_nil)).toSh (nomark _))) sds_nil)))))) (by decide), fun ds Q h => ?_⟩
  rcases h with ⟨d, rfl, hd, hQ⟩ | ⟨xs, rfl, hQ⟩ | ⟨a, b, rfl, hQ⟩ | ⟨hn, o, r, rfl, hl, hQ⟩
  · have hd' : (d = .non ∨ (∃ b, d = .bl b) ∨ ∃ i, d = .int i) ∨ ∃ m xs, n = m + 1 ∧ (d = .tup xs ∨ d = .lst xs) ∧ xs.length ≤ 100 ∧ ∀ x ∈ xs, goodD m x := by
      cases n with
      | zero => exact .inl hd
      | succ m =>
        rcases hd with h | ⟨xs, h⟩
        · exact .inl h
        · exact .inr ⟨m, xs, rfl, h⟩
    rcases hd' with (rfl | ⟨b, rfl⟩ | ⟨i, rfl⟩) | ⟨m, xs, rfl, rfl | rfl, hl, hx⟩
    · simp
      exact .inr ⟨rfl, .inr ⟨rfl, hQ⟩⟩
    · simp
      have e : eqD (Dat.bl b) (Dat.bl b) = true := by cases b <;> rfl
      rw [e]
      exact .inl ⟨rfl, hQ⟩
    · simp
      exact .inl ⟨rfl, hQ⟩
    · simp
      refine .inl ⟨rfl, .inl ⟨rfl, ?_⟩⟩
      refine lc_r1 (n := xs.length) (fun _ => none) (fun P h => by simpa using h) (by omega) (by omega) (fun a ha R hR => ?_) ?_
      · simp
        refine ⟨xs[a], atI_nat (List.getElem?_eq_getElem ha), xs[a], atI_nat (List.getElem?_eq_getElem ha), .inl ⟨xs[a], rfl, hx _ (List.getElem_mem _), ?_⟩⟩
        simp
        exact hR
      · rw [fm_none]
        exact ⟨rfl, hQ⟩
    · simp
      refine .inl ⟨rfl, .inl ⟨rfl, ?_⟩⟩
      refine lc_r1 (n := xs.length) (fun _ => none) (fun P h => by simpa using h) (by omega) (by omega) (fun a ha R hR => ?_) ?_
      · simp
        refine ⟨xs[a], atI_nat (List.getElem?_eq_getElem ha), xs[a], atI_nat (List.getElem?_eq_getElem ha), .inl ⟨xs[a], rfl, hx _ (List.getElem_mem _), ?_⟩⟩
        simp
        exact hR
      · rw [fm_none]
        exact ⟨rfl, hQ⟩
  · simp
    refine .inl ⟨rfl, .inl ⟨rfl, ?_⟩⟩
    by_cases e : xs = []
    · subst e
      refine .inl ⟨rfl, ?_⟩
      refine lc_r1 (n := 0) (fun _ => none) (fun P h => by simpa using h) (by omega) (by omega) (fun a ha R hR => by omega) ?_
      exact ⟨rfl, hQ⟩
    · simp [e] at hQ
      exact .inr ⟨e, hQ⟩
  · simp
    unfold nD
    simp [eqD]
    have e : ((a : Int) - (b : Int) == 0) = decide (a = b) := by
      rw [Bool.eq_iff_iff]
      simp
      omega
    rw [e]
    exact hQ
  · cases o with
    | none =>
      simp [orD]
      exact .inl ⟨rfl, by simpa using hQ⟩
    | some t =>
      simp [orD, rk]
      refine .inl ⟨rfl, .inl ⟨rfl, ?_⟩⟩
      by_cases el : t.length = r.length
      · refine .inl ⟨by omega, ?_⟩
        refine lc_r1 (n := r.length) (fun k => if (!decide (at0 t k = at0 r k)) = true then some (nD k) else none) (fun P h => by simpa using h) (by omega) (by omega) (fun k hk R hR => ?_) ?_
        · obtain ⟨m, rfl⟩ : ∃ m, n = m + 1 := ⟨n - 1, by omega⟩
          have i1 : ∀ P : Dat → Prop, P (nD (at0 t k)) → fIx (.tup (t.map nD)) (.int (k : Int)) P := fun P h => by
            have := fIx_rk (r := t) (a := k) (P := P) (by omega)
            exact this.mpr h
          have i2 : ∀ P : Dat → Prop, P (nD (at0 r k)) → fIx (.tup (r.map nD)) (.int (k : Int)) P := fun P h => by
            have := fIx_rk (r := r) (a := k) (P := P) hk
            exact this.mpr h
          simp
          refine i1 _ (i2 _ (.inr (.inr (.inl ⟨_, _, rfl, ?_⟩))))
          by_cases e : at0 t k = at0 r k
          · simp [e] at hR ⊢
            exact hR
          · simp [e] at hR ⊢
            exact hR
        · have ee : (Option.some t = some r) ↔ (((List.range r.length).filterMap fun k => if (!decide (at0 t k = at0 r k)) = true then some (nD k) else none) = []) := by
            rw [fm_nil, Option.some.injEq, same_ext el]
            simp
          refine ⟨?_, ?_⟩
          · simp
            intro x hx
            by_cases e : at0 t x = at0 r x <;> simp [e]
          · have e3 : ∀ l : List Dat, eqD (.lst l) (.lst []) = decide (l = []) := fun l => by cases l <;> simp [eqD, eqDs]
            rw [e3, ← decide_eq_decide.mpr ee]
            exact hQ
      · refine .inr ⟨by omega, ?_⟩
        have : ¬ t = r := fun z => el (by rw [z])
        simpa [this] using hQ
theorem ok__law_same (g : Fx K mg base) : FnOk P w K mg base L2.CX0 5 g.f__law_same g.fd__law_same P__law_same (spF 0 (S_same 5)) := ok_same g 5
end
end K92
set_option maxRecDepth 100000
set_option maxHeartbeats 2000000
/-! M8: more seats; the same lefts are seated in every stable outcome. -/
namespace K92
variable [DL.TabC]
open PySem PySem.Spec PyProof.Rows L2 RZ DL M90
theorem Ch_more {V : PL} {r q : Nat} {A : Nat → Bool} {l : Nat} (hq : q < V.seats.length) (h : l ∈ ChL V q A) : l ∈ ChL (moreSeat V r) q A := by
  unfold ChL at *
  by_cases e : q = r
  · subst e
    have : at0 (moreSeat V q).seats q = at0 V.seats q + 1 := at0_set_same hq
    rw [this]
    exact grd_seat h
  · have : at0 (moreSeat V r).seats q = at0 V.seats q := at0_set_ne e
    rw [this]
    exact h
theorem core_more {V : PL} (ok : V.Ok) {r : Nat} {ν : Nat → Option Nat} (h : Core V ν) : Core (moreSeat V r) ν := fun q A l0 hq hA h0 hν =>
  Ch_more (by rw [ok.se.1]; exact hq) (h q A l0 hq hA h0 hν)
/-- nobody loses by one more seat -/
theorem more_law {V : PL} (ok : V.Ok) {r : Nat} {o o' : List (Option Nat)} (io : IsOut V o) (nb : ∀ l r, ¬ Blk V o l r) (b : BestP (moreSeat V r) o') (l s : Nat) (h : oat o l = some s) :
    ∃ t, oat o' l = some t ∧ ixo (row V.lefts l) t ≤ ixo (row V.lefts l) s := by
  have st := stab_of ok io nb
  obtain ⟨h1, h2, _⟩ := st.ir l s h
  exact b _ (core_more ok (core_of ok st)) l s h1 h h2
/-! ### whom a right would have -/
def wantB (V : PL) (ν : Nat → Option Nat) (r : Nat) : Nat → Bool := fun l => decide (r ∈ row V.lefts l) && (decide (ν l = some r) || abB (row V.lefts l) r (ν l))
theorem wantB_iff {V : PL} {ν : Nat → Option Nat} {r l : Nat} : wantB V ν r l = true ↔ r ∈ row V.lefts l ∧ (ν l = some r ∨ abB (row V.lefts l) r (ν l) = true) := by
  simp [wantB]
theorem stab_want {V : PL} (ok : V.Ok) {ν : Nat → Option Nat} (st : StabP V ν) {r l : Nat} (hr : r < V.rights.length) : l ∈ ChL V r (wantB V ν r) ↔ ν l = some r := by
  constructor
  · intro h
    obtain ⟨h1, h2⟩ := Ch_in h
    obtain ⟨h3, h4⟩ := wantB_iff.mp h2
    rcases h4 with h4 | h4
    · exact h4
    · have hl := (row_lt ok h3).1
      refine (st.nb l r hl h3 h4 (Ch_sub ok hr (fun x hx => ?_) h (by simp))).elim
      rcases (by simpa using hx : ν x = some r ∨ x = l) with q | q
      · exact wantB_iff.mpr ⟨(st.ir x r q).2.1, .inl q⟩
      · subst q; exact h2
  · intro h
    obtain ⟨h1, h2, h3⟩ := st.ir l r h
    exact core_of ok st r _ l hr (fun x hx => ⟨(row_lt ok (wantB_iff.mp hx).1).1, wantB_iff.mp hx⟩) (wantB_iff.mpr ⟨h2, .inl h⟩) h
theorem perm_len {xs ys : List Nat} (hx : xs.Nodup) (hy : ys.Nodup) (h : ∀ a, a ∈ xs ↔ a ∈ ys) : xs.length = ys.length := (List.perm_ext_iff_of_nodup hx hy |>.mpr h).length_eq
def seatN (V : PL) (ν : Nat → Option Nat) (r : Nat) : Nat := ((List.range V.lefts.length).filter fun l => decide (ν l = some r)).length
theorem seatN_want {V : PL} (ok : V.Ok) {ν : Nat → Option Nat} (st : StabP V ν) {r : Nat} (hr : r < V.rights.length) : seatN V ν r = (ChL V r (wantB V ν r)).length := by
  refine perm_len (List.Pairwise.filter _ List.nodup_range) (Ch_nd ok hr) fun a => ?_
  rw [stab_want ok st hr]
  simp
  exact fun h => (st.ir a r h).1
theorem sum_inc {m x : Nat} (hx : x < m) (a : Nat → Nat) : ((List.range m).map fun r => a r + if x = r then 1 else 0).sum = ((List.range m).map a).sum + 1 := by
  induction m with
  | zero => omega
  | succ m ih =>
    rw [List.range_succ, List.map_append, List.map_append, List.sum_append, List.sum_append]
    by_cases e : x = m
    · subst e
      have : ((List.range x).map fun r => a r + if x = r then 1 else 0) = (List.range x).map a := by
        apply List.map_congr_left
        intro r hr
        have := List.mem_range.mp hr
        rw [if_neg (by omega)]
        rfl
      rw [this]
      simp
      omega
    · rw [ih (by omega)]
      simp [e]
      omega
theorem sum_same {m : Nat} (a : Nat → Nat) {x : Nat} (hx : m ≤ x) : ((List.range m).map fun r => a r + if x = r then 1 else 0).sum = ((List.range m).map a).sum := by
  congr 1
  apply List.map_congr_left
  intro r hr
  have := List.mem_range.mp hr
  rw [if_neg (by omega)]
  rfl
theorem sum_zero (m : Nat) : ((List.range m).map fun _ => 0).sum = 0 := by
  induction m with
  | zero => rfl
  | succ m ih => rw [List.range_succ, List.map_append, List.sum_append, ih]; rfl
theorem count_all {n m : Nat} {f : Nat → Option Nat} (h : ∀ l r, f l = some r → r < m) :
    ((List.range n).filter fun l => (f l).isSome).length = ((List.range m).map fun r => ((List.range n).filter fun l => decide (f l = some r)).length).sum := by
  induction n with
  | zero => simp [sum_zero]
  | succ n ih =>
    rw [List.range_succ, List.filter_append, List.length_append, ih]
    have e : (fun r => ((List.range n ++ [n]).filter fun l => decide (f l = some r)).length) = fun r => ((List.range n).filter fun l => decide (f l = some r)).length + if f n = some r then 1 else 0 := by
      funext r
      rw [List.filter_append, List.length_append]
      by_cases q : f n = some r <;> simp [q]
    rw [e]
    cases q : f n with
    | none => simp [q]
    | some x =>
      have e2 : (fun r => ((List.range n).filter fun l => decide (f l = some r)).length + if some x = some r then 1 else 0) = fun r => ((List.range n).filter fun l => decide (f l = some r)).length + if x = r then 1 else 0 := by
        funext r
        simp
      rw [e2, sum_inc (h n x q)]
      simp [q]
theorem sum_mono {m : Nat} {a b : Nat → Nat} (h : ∀ r, r < m → a r ≤ b r) : ((List.range m).map a).sum ≤ ((List.range m).map b).sum := by
  induction m with
  | zero => simp
  | succ m ih =>
    rw [List.range_succ, List.map_append, List.map_append, List.sum_append, List.sum_append]
    have := ih fun r hr => h r (by omega)
    have := h m (by omega)
    simp
    omega
theorem count_sub {n : Nat} {p q : Nat → Bool} (hpq : ∀ x, x < n → p x = true → q x = true) (hc : ((List.range n).filter q).length ≤ ((List.range n).filter p).length) : ∀ x, x < n → q x = true → p x = true := by
  induction n with
  | zero => intro x hx; omega
  | succ n ih =>
    have mono : ((List.range n).filter p).length ≤ ((List.range n).filter q).length := by
      have : ((List.range n).filter p).Sublist ((List.range n).filter q) := by
        have e : (List.range n).filter p = ((List.range n).filter q).filter p := by
          rw [List.filter_filter]
          apply List.filter_congr
          intro x hx
          have := hpq x (by have := List.mem_range.mp hx; omega)
          cases h1 : p x <;> simp_all
        rw [e]
        exact List.filter_sublist
      exact this.length_le
    rw [List.range_succ, List.filter_append, List.filter_append, List.length_append, List.length_append] at hc
    have hn := hpq n (by omega)
    intro x hx hq
    by_cases e : x = n
    · subst e
      cases h1 : p x with
      | true => rfl
      | false =>
        simp [hq, h1] at hc
        omega
    · refine ih (fun x hx => hpq x (by omega)) ?_ x (by omega) hq
      cases h1 : p n <;> cases h2 : q n <;> simp [h1, h2] at hc hn <;> omega
/-- the same lefts are seated in every stable outcome -/
theorem rural {V : PL} (ok : V.Ok) {ν μ : Nat → Option Nat} (sν : StabP V ν) (sμ : StabP V μ) (hb : ∀ l s, ν l = some s → ∃ t, μ l = some t ∧ ixo (row V.lefts l) t ≤ ixo (row V.lefts l) s) (l : Nat) (h : (μ l).isSome = true) : (ν l).isSome = true := by
  have hμ : ∀ l r, μ l = some r → r < V.rights.length := fun l r h => (row_lt ok (sμ.ir l r h).2.1).2
  have hν : ∀ l r, ν l = some r → r < V.rights.length := fun l r h => (row_lt ok (sν.ir l r h).2.1).2
  have hl : l < V.lefts.length := by
    cases e : μ l with
    | none => rw [e] at h; cases h
    | some r => exact (sμ.ir l r e).1
  refine count_sub (n := V.lefts.length) (p := fun l => (ν l).isSome) (q := fun l => (μ l).isSome) (fun x _ hx => ?_) ?_ l hl h
  · cases e : ν x with
    | none => rw [e] at hx; cases hx
    | some s =>
      obtain ⟨t, ht, _⟩ := hb x s e
      simp [ht]
  · rw [count_all hμ, count_all hν]
    refine sum_mono fun r hr => ?_
    show seatN V μ r ≤ seatN V ν r
    rw [seatN_want ok sμ hr, seatN_want ok sν hr]
    refine Ch_lad ok hr fun x hx => ?_
    obtain ⟨h1, h2⟩ := wantB_iff.mp hx
    refine wantB_iff.mpr ⟨h1, ?_⟩
    cases e : ν x with
    | none => exact .inr rfl
    | some s =>
      obtain ⟨t, ht, hle⟩ := hb x s e
      rcases h2 with h2 | h2
      · rw [h2] at ht
        cases ht
        rcases Nat.lt_or_eq_of_le hle with q | q
        · right; simpa [abB] using q
        · left; rw [ixo_inj h1 q]
      · rw [ht] at h2
        have : ixo (row V.lefts x) r < ixo (row V.lefts x) t := by simpa [abB] using h2
        right
        have : ixo (row V.lefts x) r < ixo (row V.lefts x) s := by omega
        simpa [abB] using this
end K92
set_option maxRecDepth 100000
set_option maxHeartbeats 2000000
/-! M9: a best outcome exists; nobody gains by a lie. -/
namespace K92
variable [DL.TabC]
open PySem PySem.Spec PyProof.Rows L2 RZ DL M90
def restT (V : PL) (at' : Nat → Nat) : Nat := ((List.range V.lefts.length).map fun x => (row V.lefts x).length - at' x).sum
theorem dai_end {V : PL} (ok : V.Ok) : ∀ (N : Nat) (at' : Nat → Nat) (held : Nat → List Nat) (W : List Nat), DAI V at' held W → restT V at' * (V.lefts.length + 1) + W.length ≤ N → ∃ at2 held2, DAI V at2 held2 [] := by
  intro N
  induction N with
  | zero =>
    intro at' held W d h
    have : W = [] := List.eq_nil_of_length_eq_zero (by omega)
    subst this
    exact ⟨_, _, d⟩
  | succ N ih =>
    intro at' held W d h
    rcases List.eq_nil_or_concat W with rfl | ⟨W', l, rfl⟩
    · exact ⟨_, _, d⟩
    · rw [List.concat_eq_append] at d h
      have hl : l < V.lefts.length := d.wlt l (by simp)
      by_cases he : at' l = (row V.lefts l).length
      · refine ih _ _ _ (d.drop he) ?_
        simp at h
        omega
      · have hlt : at' l < (row V.lefts l).length := by have := d.atl l; omega
        have d2 := d.ask ok (List.getElem?_eq_getElem hlt)
        have hW := nodup_lt d2.wnd d2.wlt
        refine ih _ _ _ d2 ?_
        have hT : restT V at' = restT V (fun x => if x = l then at' l + 1 else at' x) + 1 := by
          unfold restT
          rw [← sum_inc hl]
          congr 1
          apply List.map_congr_left
          intro x hx
          by_cases e : l = x
          · subst e
            simp
            omega
          · have : ¬ x = l := fun q => e q.symm
            simp [e, this]
        rw [hT, Nat.succ_mul] at h
        omega
theorem best_ex {V : PL} (ok : V.Ok) : ∃ o, IsOut V o ∧ (∀ l r, ¬ Blk V o l r) ∧ BestP V o := by
  obtain ⟨at', held, d⟩ := dai_end ok _ _ _ _ (DAI.init V) (Nat.le_refl _)
  have hlen : ((List.range V.lefts.length).map fun l => (List.range V.rights.length).find? fun r => decide (l ∈ held r)).length = V.lefts.length := by simp
  refine ⟨(List.range V.lefts.length).map fun l => (List.range V.rights.length).find? fun r => decide (l ∈ held r), DAI.done ok d hlen fun l r => ?_⟩
  constructor
  · intro h
    by_cases hl : l < V.lefts.length
    · rw [oat_range hl] at h
      simpa using List.find?_some h
    · rw [oat_out (by rw [hlen]; omega)] at h
      cases h
  · intro h
    obtain ⟨h1, h2, h3, h4⟩ := d.hat r l h
    rw [oat_range h1]
    have hr : r < V.rights.length := (row_lt ok (List.mem_of_getElem? h4)).2
    cases e : (List.range V.rights.length).find? fun r => decide (l ∈ held r) with
    | none =>
      rw [List.find?_eq_none] at e
      exact (e r (List.mem_range.mpr hr) (by simpa using h)).elim
    | some q =>
      have hq : l ∈ held q := by simpa using List.find?_some e
      obtain ⟨_, _, _, q4⟩ := d.hat q l hq
      rw [h4] at q4
      exact q4.symm
theorem rowA_same {A : List (List Nat)} {l : Nat} {k : List Nat} (h : l < A.length) : row (A.set l k) l = k := by simp [row, h]
theorem rowA_ne {A : List (List Nat)} {l x : Nat} {k : List Nat} (h : x ≠ l) : row (A.set l k) x = row A x := by
  unfold row
  rw [List.getD_eq_getElem?_getD, List.getD_eq_getElem?_getD, List.getElem?_set_ne (Ne.symm h)]
theorem lie_row {V : PL} {l : Nat} {k : List Nat} (h : l < V.lefts.length) : row (lieV V l k).lefts l = k := rowA_same h
theorem lie_row_ne {V : PL} {l x : Nat} {k : List Nat} (h : x ≠ l) : row (lieV V l k).lefts x = row V.lefts x := rowA_ne h
theorem lie_len {V : PL} {l : Nat} {k : List Nat} : (lieV V l k).lefts.length = V.lefts.length := by simp [lieV]
theorem lie_Ch {V : PL} {l r : Nat} {k : List Nat} {A : Nat → Bool} : ChL (lieV V l k) r A = ChL V r A := rfl
theorem lie_self {V : PL} {l : Nat} (h : l < V.lefts.length) : lieV V l (row V.lefts l) = V := by
  have : V.lefts.set l (row V.lefts l) = V.lefts := by
    apply List.ext_getElem?
    intro i
    by_cases e : i = l
    · subst e
      rw [List.getElem?_set_self h]
      simp [row, h]
    · rw [List.getElem?_set_ne (Ne.symm e)]
  unfold lieV
  rw [this]
/-- another ranking with nothing new above one's seat -/
theorem relie {V : PL} {l r : Nat} {k1 k2 : List Nat} {ν : Nat → Option Nat} (hl : l < V.lefts.length) (st : StabP (lieV V l k1) ν) (h : ν l = some r) (hr : r ∈ k2) (ha : ∀ s, s ∈ k2 → ixo k2 s < ixo k2 r → s ∈ k1 ∧ ixo k1 s < ixo k1 r) : StabP (lieV V l k2) ν where
  ir := fun x q hx => by
    obtain ⟨h1, h2, h3⟩ := st.ir x q hx
    rw [lie_len] at h1 ⊢
    refine ⟨h1, ?_, h3⟩
    by_cases e : x = l
    · subst e
      rw [h] at hx
      cases hx
      rw [lie_row hl]
      exact hr
    · rw [lie_row_ne e] at h2 ⊢
      exact h2
  nb := fun x q hx hq hab => by
    rw [lie_len] at hx
    by_cases e : x = l
    · subst e
      rw [lie_row hl] at hq hab
      rw [h] at hab
      obtain ⟨a1, a2⟩ := ha q hq (by simpa [abB] using hab)
      exact st.nb x q (by rw [lie_len]; exact hx) (by rw [lie_row hl]; exact a1) (by rw [lie_row hl, h]; simpa [abB] using a2)
    · rw [lie_row_ne e] at hq hab
      exact st.nb x q (by rw [lie_len]; exact hx) (by rw [lie_row_ne e]; exact hq) (by rw [lie_row_ne e]; exact hab)
theorem relie0 {V : PL} {l : Nat} {k1 k2 : List Nat} {ν : Nat → Option Nat} (hl : l < V.lefts.length) (st : StabP (lieV V l k1) ν) (h : ν l = none) (ha : ∀ s, s ∈ k2 → s ∈ k1) : StabP (lieV V l k2) ν where
  ir := fun x q hx => by
    obtain ⟨h1, h2, h3⟩ := st.ir x q hx
    rw [lie_len] at h1 ⊢
    refine ⟨h1, ?_, h3⟩
    have e : x ≠ l := fun e => by rw [e, h] at hx; cases hx
    rw [lie_row_ne e] at h2 ⊢
    exact h2
  nb := fun x q hx hq hab => by
    rw [lie_len] at hx
    by_cases e : x = l
    · subst e
      rw [lie_row hl] at hq
      exact st.nb x q (by rw [lie_len]; exact hx) (by rw [lie_row hl]; exact ha q hq) (by rw [h]; rfl)
    · rw [lie_row_ne e] at hq hab
      exact st.nb x q (by rw [lie_len]; exact hx) (by rw [lie_row_ne e]; exact hq) (by rw [lie_row_ne e]; exact hab)
theorem take_ixo {xs : List Nat} (hn : xs.Nodup) {p s : Nat} : s ∈ xs.take p ↔ s ∈ xs ∧ ixo xs s < p := by
  constructor
  · intro h
    obtain ⟨j, hj⟩ := List.getElem?_of_mem h
    have h1 : j < p := by
      have := (List.getElem?_eq_some_iff.mp hj).1
      simp at this
      omega
    rw [List.getElem?_take_of_lt h1] at hj
    exact ⟨List.mem_of_mem_take h, by rw [idx_at hn hj]; exact h1⟩
  · intro ⟨h1, h2⟩
    have := get_ixo h1
    rw [← List.getElem?_take_of_lt h2] at this
    exact List.mem_of_getElem? this
theorem ixo_take {xs : List Nat} (hn : xs.Nodup) {p s : Nat} (h : s ∈ xs.take p) : ixo (xs.take p) s = ixo xs s := by
  obtain ⟨h1, h2⟩ := (take_ixo hn).mp h
  have := get_ixo h1
  rw [← List.getElem?_take_of_lt h2] at this
  exact idx_at (hn.sublist (List.take_sublist _ _)) this
/-- nobody gains by a lie -/
theorem no_gain {V : PL} (ok : V.Ok) {l : Nat} {k : List Nat} (hl : l < V.lefts.length) (hk : RkOk V.rights.length k) {o o' : List (Option Nat)} (b : BestP V o) (io' : IsOut (lieV V l k) o') (nb' : ∀ a r, ¬ Blk (lieV V l k) o' a r)
    {r' : Nat} (h' : oat o' l = some r') (hr' : r' ∈ row V.lefts l) : abB (row V.lefts l) r' (oat o l) = false := by
  have hrow := ok.sd.1.2.2 _ (row_mem hl)
  have hrow2 := ok.sd.2.2 _ (row_mem hl)
  have hm : V.rights.length ≤ 20 := ok.sd.2.1.2.1
  have rkR : ∀ k2 : List Nat, k2.Nodup → (∀ x ∈ k2, x ∈ row V.lefts l) → RkOk V.rights.length k2 := fun k2 h1 h2 => ⟨h1, fun x hx => hrow2 x (h2 x hx), hm⟩
  have st' := stab_of (lieV_ok ok hk) io' nb'
  have ok1 : (lieV V l [r']).Ok := lieV_ok ok (rkR _ (by simp) (by simpa using hr'))
  have st1 : StabP (lieV V l [r']) (oat o') := relie hl st' h' (by simp) fun s hs hlt => by
    have : s = r' := by simpa using hs
    subst this
    omega
  obtain ⟨o1, i1, n1, b1⟩ := best_ex ok1
  have s1 := stab_of ok1 i1 n1
  obtain ⟨t1, ht1, _⟩ := b1 _ (core_of ok1 st1) l r' (by rw [lie_len]; exact hl) h' (by rw [lie_row hl]; simp)
  have ok2 : (lieV V l ((row V.lefts l).take (ixo (row V.lefts l) r' + 1))).Ok := lieV_ok ok (rkR _ (hrow.1.sublist (List.take_sublist _ _)) fun x hx => List.mem_of_mem_take hx)
  obtain ⟨o2, i2, n2, b2⟩ := best_ex ok2
  have s2 := stab_of ok2 i2 n2
  cases e : oat o2 l with
  | none =>
    have s3 : StabP (lieV V l [r']) (oat o2) := relie0 hl s2 e fun s hs => by
      have : s = r' := by simpa using hs
      subst this
      exact (take_ixo hrow.1).mpr ⟨hr', by omega⟩
    have := rural ok1 s3 s1 (fun x s hx => b1 _ (core_of ok1 s3) x s (s3.ir x s hx).1 hx (s3.ir x s hx).2.1) l (by rw [ht1]; rfl)
    rw [e] at this
    cases this
  | some s =>
    have hs : s ∈ (row V.lefts l).take (ixo (row V.lefts l) r' + 1) := by
      have := (s2.ir l s e).2.1
      rwa [lie_row hl] at this
    obtain ⟨hs1, hs2⟩ := (take_ixo hrow.1).mp hs
    have s4 : StabP (lieV V l (row V.lefts l)) (oat o2) := relie hl s2 e hs1 fun t ht hlt => by
      have h5 : t ∈ (row V.lefts l).take (ixo (row V.lefts l) r' + 1) := (take_ixo hrow.1).mpr ⟨ht, by omega⟩
      exact ⟨h5, by rw [ixo_take hrow.1 h5, ixo_take hrow.1 hs]; exact hlt⟩
    rw [lie_self hl] at s4
    obtain ⟨q, hq, hle⟩ := b _ (core_of ok s4) l s hl e hs1
    rw [hq]
    show decide (ixo (row V.lefts l) r' < ixo (row V.lefts l) q) = false
    rw [decide_eq_false_iff_not]
    omega
end K92
set_option maxRecDepth 100000
set_option maxHeartbeats 1000000
namespace K92
open PySem PySem.Spec PyProof.Rows L2 RZ DL LamX
open C8 (call_isC pe_gc InsC)
open M90
variable [TabC]
/-- the left that a right has -/
def hld (o : List (Option Nat)) (r : Nat) : Option Nat := inv o.length (oat o) r
theorem out_ext {o e : List (Option Nat)} (h : o.length = e.length) (hx : ∀ l, oat o l = oat e l) : o = e := by
  apply List.ext_getElem?
  intro i
  have := hx i
  unfold oat at this
  rw [List.getD_eq_getElem?_getD, List.getD_eq_getElem?_getD] at this
  rcases Nat.lt_or_ge i o.length with q | q
  · rw [List.getElem?_eq_getElem q, List.getElem?_eq_getElem (by omega)] at this ⊢
    exact congrArg some this
  · rw [List.getElem?_eq_none q, List.getElem?_eq_none (by omega)]
def One (o : List (Option Nat)) : Prop := ∀ l y r, oat o l = some r → oat o y = some r → y = l
theorem oat_some_lt {o : List (Option Nat)} {l r : Nat} (h : oat o l = some r) : l < o.length := by
  rcases Nat.lt_or_ge l o.length with q | q
  · exact q
  · rw [oat_out q] at h; cases h
theorem hld_iff {o : List (Option Nat)} (h : One o) (l r : Nat) : oat o l = some r ↔ hld o r = some l := inv_iff (fun l r h => oat_some_lt h) h l r
def S_holders_of (C : Addr) : List Dat → (Dat → Prop) → Prop := fun ds P => ∃ (A B : List (List Nat)) (o : List (Option Nat)), ds = [pSides C A B, outD o] ∧ B.length ≤ 20 ∧ o.length ≤ 20 ∧ (∀ l r, oat o l = some r → r < B.length) ∧ One o ∧ P (.lst (((List.range B.length).map (hld o)).map oD))
theorem len_holders_of {C : Addr} (ds : List Dat) (Q : Dat → Prop) (h : S_holders_of C ds Q) : ds.length = P_holders_of.length := by
  obtain ⟨A, B, o, rfl, _⟩ := h; rfl
def ho_Iv (C : Addr) (A B : List (List Nat)) (o : List (Option Nat)) (i : Nat) (ε : Ev) : Prop := ∃ (f : List (Option Nat)) (x3 x4 : Sl), ε = [Sl.val (pSides C A B), Sl.val (outD o), Sl.own (.lst (f.map oD)), x3, x4] ∧ f.length = B.length ∧ ∀ l r, oat f r = some l ↔ l < i ∧ oat o l = some r
section
variable {P : Program} {w : World} {K : PySem.W.Frag} {mg : Str → Option Value} {base : Heap}
theorem ok_holders_of (g : Fx K mg base) : FnOk P w K mg base L2.CX0 1 g.f_holders_of g.fd_holders_of P_holders_of (spF 0 (S_holders_of g.C_Sides)) := by
  refine okD g.F_holders_of sc_holders_of len_holders_of (fun cdv A outer s H E hr => ?_)
  have nd := (sc_holders_of).nd
  refine ⟨_, SDs.cost (sds_cons (sd_asgO (i := 2) (pd_op op_rep od_repL ((pd_lst (pad_cons pd_non pad_nil))).toSh ((pd_callB call_lenA cd_len (by rfl) g.b_len boot_len (phd_cons ((pd_fld g.cl_Sides g.na_Sides_rights (pd_var (pv 0)))).toSh phd_nil))).toSh) nd rfl (.inl rfl)) (sds_cons (sd_for 64 PassesOwn.never rfl (pid_enum (by rfl) g.b_enumerate (pad_cons (pd_var (pv 1)) pad_nil)) (pgd_tup (n := 2) rfl (pgsd_cons (pgd_name (i := 3) nd rfl (.inl rfl)) (pgsd_cons (pgd_name (i := 4) nd rfl (.inl rfl)) pgsd_nil))) (sds_cons (sd_if (ptd_cmp op_isnA od_isn ((pd_var (pv 4))).toSh (pd_non).toSh (nomark _)) (sds_cons (sd_setL (pv 2) (pd_var (pv 4)) (pd_var (pv 3))) sds_nil) sds_nil) sds_nil)) (sds_cons (((sd_ret (pd_var (pv 2)))).frz 2) sds_nil))) (by decide), fun ds Q h => ?_⟩
  obtain ⟨A, B, o, rfl, hm, hn, hr, h1, hQ⟩ := h
  simp [pSides]
  refine ⟨by omega, by omega, ?_⟩
  refine for_en (ds := o.map oD) (d := .tup (o.map oD)) (fun P h => ?_) (.inr rfl) (by simp; omega) (ho_Iv g.C_Sides A B o) ⟨List.replicate B.length none, .off, .off, by simp [oD, pSides], by simp, fun l r => by simp [oat, List.getElem?_replicate]; split <;> simp⟩ (fun i d ε hd' ⟨f, x2, x3, hε, hfl, hf⟩ => ?_) (fun ε ⟨f, x2, x3, hε, hfl, hf⟩ => ?_)
  · simpa [outD] using h
  · obtain ⟨hi, rfl⟩ := map_oD_get hd'
    subst hε
    simp
    cases e : oat o i with
    | none =>
      refine .inl ⟨rfl, f, _, _, rfl, hfl, fun l r => (hf l r).trans ⟨fun h => ⟨by omega, h.2⟩, fun h => ⟨?_, h.2⟩⟩⟩
      have : l ≠ i := fun q => by rw [q, e] at h; cases h.2
      omega
    | some r0 =>
      have hrB : r0 < B.length := hr i r0 e
      have hset : (f.map oD).set r0 (.int (i : Int)) = (f.set r0 (some i)).map oD := by rw [List.map_set]; rfl
      refine .inr ⟨rfl, (r0 : Int), rfl, r0, ixN_nat (by omega), ?_⟩
      rw [hset]
      refine ⟨f.set r0 (some i), _, _, rfl, by simpa using hfl, fun l r' => ?_⟩
      by_cases q : r' = r0
      · subst q
        rw [oat_set_same (by omega)]
        constructor
        · intro z; cases z; exact ⟨by omega, e⟩
        · rintro ⟨a1, a2⟩
          rw [h1 l i r' a2 e]
      · rw [oat_set_ne q, hf l r']
        constructor
        · rintro ⟨a1, a2⟩; exact ⟨by omega, a2⟩
        · rintro ⟨a1, a2⟩
          refine ⟨?_, a2⟩
          have : l ≠ i := fun z => by
            rw [z, e] at a2
            cases a2
            exact q rfl
          omega
  · subst hε
    simp
    rw [List.length_map] at hf
    have e : f = (List.range B.length).map (hld o) := by
      refine out_ext (by simp [hfl]) fun r => ?_
      rcases Nat.lt_or_ge r B.length with q | q
      · rw [oat_range q]
        cases e1 : hld o r with
        | none =>
          cases e2 : oat f r with
          | none => rfl
          | some l => rw [(hld_iff h1 l r).mp ((hf l r).mp e2).2] at e1; cases e1
        | some l =>
          have := (hld_iff h1 l r).mpr e1
          exact (hf l r).mpr ⟨oat_some_lt this, this⟩
      · rw [oat_out (by omega), oat_out (by simpa using q)]
    rw [e]
    first | exact hQ | simpa using hQ
end
def S_check_right (C : Addr) : List Dat → (Dat → Prop) → Prop := fun ds P => ∃ (A B : List (List Nat)) (r : Nat), ds = [pSides C A B, nD r] ∧ r < B.length ∧ P .non
theorem len_check_right {C : Addr} (ds : List Dat) (Q : Dat → Prop) (h : S_check_right C ds Q) : ds.length = P_check_right.length := by
  obtain ⟨A, B, r, rfl, _⟩ := h; rfl
section
variable {P : Program} {w : World} {K : PySem.W.Frag} {mg : Str → Option Value} {base : Heap}
theorem ok_check_right (g : Fx K mg base) : FnOk P w K mg base L2.CX0 3 g.f_check_right g.fd_check_right P_check_right (spF 0 (S_check_right g.C_Sides)) := by
  refine okD g.F_check_right sc_check_right len_check_right (fun cdv A outer s H E hr => ?_)
  have nd := (sc_check_right).nd
  refine ⟨_, SDs.cost (sds_cons (sd_if (ptd_not (ptd_val (pd_call (ok_is_below g) (hr.mono (by decide)) (by rfl) g.g_is_below g.F_is_below.kp (b_is_below g) (pad_cons (pd_var (pv 1)) (pad_cons (pd_callB call_lenA cd_len (by rfl) g.b_len boot_len (phd_cons ((pd_fld g.cl_Sides g.na_Sides_rights (pd_var (pv 0)))).toSh phd_nil)) pad_nil))))) (sds_cons sd_never sds_nil) sds_nil) sds_nil) (by decide), fun ds Q h => ?_⟩
  obtain ⟨A, B, r, rfl, h1, h2⟩ := h
  simp [pSides]
  refine ⟨r, B.length, rfl, ?_⟩
  simpa [h1] using h2
end
def S_check_both (C : Addr) : List Dat → (Dat → Prop) → Prop := fun ds P => ∃ (A B : List (List Nat)) (r : Nat), ds = [pSides C A B, nD r] ∧ r < B.length ∧ P .non
theorem len_check_both {C : Addr} (ds : List Dat) (Q : Dat → Prop) (h : S_check_both C ds Q) : ds.length = P_check_both.length := by
  obtain ⟨A, B, r, rfl, _⟩ := h; rfl
section
variable {P : Program} {w : World} {K : PySem.W.Frag} {mg : Str → Option Value} {base : Heap}
theorem ok_check_both (g : Fx K mg base) : FnOk P w K mg base L2.CX0 4 g.f_check_both g.fd_check_both P_check_both (spF 0 (S_check_both g.C_Sides)) := by
  refine okD g.F_check_both sc_check_both len_check_both (fun cdv A outer s H E hr => ?_)
  have nd := (sc_check_both).nd
  refine ⟨_, SDs.cost (sds_cons (sd_drop (pd_call (ok_check_sides g) (hr.mono (by decide)) (by rfl) g.g_check_sides g.F_check_sides.kp (b_check_sides g) (pad_cons (pd_var (pv 0)) pad_nil))) (sds_cons (sd_drop (pd_call (ok_check_right g) (hr.mono (by decide)) (by rfl) g.g_check_right g.F_check_right.kp (b_check_right g) (pad_cons (pd_var (pv 0)) (pad_cons (pd_var (pv 1)) pad_nil)))) sds_nil)) (by decide), fun ds Q h => ?_⟩
  obtain ⟨A, B, r, rfl, h1, h2⟩ := h
  simp [pSides]
  exact ⟨_, rfl, A, B, r, rfl, h1, h2⟩
end
end K92
set_option maxRecDepth 100000
set_option maxHeartbeats 2000000
/-! M30: what a right may gain by another ranking. -/
namespace K92
open PySem PySem.Spec PyProof.Rows L2 RZ DL M90
variable [TabC]
def Stb (A B : List (List Nat)) (o : List (Option Nat)) : Prop := IsOut (sPL A B) o ∧ ∀ l r, ¬ Blk (sPL A B) o l r
def trO (B : List (List Nat)) (o : List (Option Nat)) : List (Option Nat) := (List.range B.length).map (hld o)
section
variable {A B : List (List Nat)} {o w o' : List (Option Nat)} {r : Nat} {k : List Nat}
theorem stb_at (hs : SidesOk A B) (h : Stb A B o) : ∀ l r, oat o l = some r → l < A.length ∧ r ∈ row A l ∧ l ∈ row B r ∧ ∀ y, oat o y = some r → y = l := (stab_one hs (stab_of (sPL_ok hs) h.1 h.2)).1
theorem stb_one (hs : SidesOk A B) (h : Stb A B o) : One o := fun l y r h1 h2 => (stb_at hs h l r h1).2.2.2 y h2
theorem row_of_mem {ls : List (List Nat)} {a x : Nat} (h : x ∈ row ls a) : a < ls.length := by
  rcases Nat.lt_or_ge a ls.length with q | q
  · exact q
  · rw [row_out q] at h; simp at h
theorem stb_lt (hs : SidesOk A B) (h : Stb A B o) (l r : Nat) (e : oat o l = some r) : r < B.length := row_of_mem (stb_at hs h l r e).2.2.1
theorem stb_len (hs : SidesOk A B) (h : Stb A B o) : o.length ≤ 20 := by
  have := h.1.len
  have h2 := hs.1.2.1
  simp [sPL] at this
  omega
theorem tr_iff (hs : SidesOk A B) (h : Stb A B o) (l r : Nat) : oat o l = some r ↔ oat (trO B o) r = some l := by
  unfold trO
  rcases Nat.lt_or_ge r B.length with q | q
  · rw [oat_range q]
    exact hld_iff (stb_one hs h) l r
  · have e0 : oat ((List.range B.length).map (hld o)) r = none := oat_out (by simpa using q)
    rw [e0]
    constructor
    · intro e
      have := stb_lt hs h l r e
      omega
    · intro e; cases e
theorem tr_oat (hr : r < B.length) : oat (trO B o) r = hld o r := by unfold trO; rw [oat_range hr]
theorem swap_stb (hs : SidesOk A B) (h : Stb A B o) : Stb B A (trO B o) :=
  out_of (sPL_ok (sides_swap hs)) (by simp [trO, sPL]) (stab_swap hs (tr_iff hs h) (stab_of (sPL_ok hs) h.1 h.2))
theorem worst_uniq (hs : SidesOk A B) (h : Stb A B o) (h' : Stb A B w) (b : WorstP (sPL A B) o) (b' : WorstP (sPL A B) w) : o = w := by
  refine out_ext (by have := h.1.len; have := h'.1.len; omega) fun l => ?_
  have s := stab_of (sPL_ok hs) h.1 h.2
  have s' := stab_of (sPL_ok hs) h'.1 h'.2
  cases e : oat o l with
  | none =>
    cases e' : oat w l with
    | none => rfl
    | some q =>
      obtain ⟨t, ht, _⟩ := b' _ s l q e'
      rw [e] at ht; cases ht
  | some p =>
    obtain ⟨q, hq, le1⟩ := b _ s' l p e
    obtain ⟨p', hp, le2⟩ := b' _ s l q hq
    rw [e] at hp
    cases hp
    rw [hq]
    have hm := (stb_at hs h l p e).2.1
    rw [ixo_inj hm (Nat.le_antisymm le2 le1)]
theorem best_uniq (hs : SidesOk A B) (h : Stb A B o) (h' : Stb A B w) (b : BestP (sPL A B) o) (b' : BestP (sPL A B) w) : o = w := by
  have ok := sPL_ok hs
  have s := core_of ok (stab_of ok h.1 h.2)
  have s' := core_of ok (stab_of ok h'.1 h'.2)
  have la := h.1.len
  have lb := h'.1.len
  refine out_ext (by omega) fun l => ?_
  cases e : oat o l with
  | none =>
    cases e' : oat w l with
    | none => rfl
    | some q =>
      have a := stb_at hs h' l q e'
      obtain ⟨t, ht, _⟩ := b _ s' l q a.1 e' a.2.1
      rw [e] at ht; cases ht
  | some p =>
    have a := stb_at hs h l p e
    obtain ⟨q, hq, le1⟩ := b' _ s l p a.1 e a.2.1
    have a' := stb_at hs h' l q hq
    obtain ⟨p', hp, le2⟩ := b _ s' l q a'.1 hq a'.2.1
    rw [e] at hp
    cases hp
    rw [hq, ixo_inj a.2.1 (Nat.le_antisymm le2 le1)]
/-- rights' best seen from their side -/
theorem worst_best (hs : SidesOk A B) (h : Stb A B w) (b : WorstP (sPL A B) w) : BestP (sPL B A) (trO B w) := by
  have hs' := sides_swap hs
  obtain ⟨b0, i1, n1, b1⟩ := best_ex (sPL_ok hs')
  have st : Stb B A b0 := ⟨i1, n1⟩
  have st2 := swap_stb hs' st
  have w2 : WorstP (sPL A B) (trO A b0) := worst_swap hs (stab_of (sPL_ok hs) st2.1 st2.2) (fun l r => (tr_iff hs' st r l).symm) b1
  have e := worst_uniq hs h st2 b w2
  have e2 : trO B w = b0 := by
    refine out_ext (by have := i1.len; simp [trO, sPL] at this ⊢; omega) fun r => ?_
    have key : ∀ l, oat (trO B w) r = some l ↔ oat b0 r = some l := fun l => by
      rw [← tr_iff hs h l r, e, ← tr_iff hs' st r l]
    cases q : oat b0 r with
    | none =>
      cases q2 : oat (trO B w) r with
      | none => rfl
      | some l => rw [(key l).mp q2] at q; cases q
    | some l => exact (key l).mpr q
  rw [e2]
  exact b1
theorem lie_eq (hr : r < B.length) : lieV (sPL B A) r k = sPL (B.set r k) A := by
  unfold lieV sPL
  simp
theorem lie_sides (hs : SidesOk A B) (hk : RkOk A.length k) : SidesOk A (B.set r k) := by
  obtain ⟨h1, h2, h3⟩ := hs
  refine ⟨h1, ⟨by simpa using h2.1, by simpa using h2.2.1, fun q hq => ?_⟩, fun q hq x hx => by simpa using h3 q hq x hx⟩
  rcases List.mem_or_eq_of_mem_set hq with z | z
  · exact h2.2.2 q z
  · rw [z]; exact hk
/-- rights' best is best of all that are stable -/
theorem best_of_all (hs : SidesOk A B) (hr : r < B.length) (h : Stb A B w) (b : WorstP (sPL A B) w) (h' : Stb A B o) {y : Nat} (e : hld o r = some y) : y ∈ row B r ∧ ∃ x, hld w r = some x ∧ ixo (row B r) x ≤ ixo (row B r) y := by
  have s2 := swap_stb hs h'
  have e2 : oat (trO B o) r = some y := by rw [tr_oat hr]; exact e
  have hy : y ∈ row B r := (stb_at (sides_swap hs) s2 r y e2).2.1
  refine ⟨hy, ?_⟩
  obtain ⟨x, hx, le⟩ := worst_best hs h b _ (core_of (sPL_ok (sides_swap hs)) (stab_of (sPL_ok (sides_swap hs)) s2.1 s2.2)) r y hr e2 hy
  exact ⟨x, by rw [← tr_oat hr]; exact hx, le⟩
/-- a right who is paired in one stable pairing is paired in all -/
theorem rural_r (hs : SidesOk A B) (hr : r < B.length) (h : Stb A B w) (b : WorstP (sPL A B) w) (h' : Stb A B o) : (hld o r).isSome = (hld w r).isSome := by
  have hs' := sides_swap hs
  have s2 := swap_stb hs h'
  have w2 := swap_stb hs h
  have bb := worst_best hs h b
  have st := stab_of (sPL_ok hs') s2.1 s2.2
  have stw := stab_of (sPL_ok hs') w2.1 w2.2
  rw [Bool.eq_iff_iff]
  constructor
  · intro q
    obtain ⟨y, hy⟩ := Option.isSome_iff_exists.mp q
    obtain ⟨_, x, hx, _⟩ := best_of_all hs hr h b h' hy
    rw [hx]; rfl
  · intro q
    have := rural (sPL_ok hs') st stw (fun l s hl => bb _ (core_of (sPL_ok hs') st) l s (st.ir l s hl).1 hl (st.ir l s hl).2.1) r (by rw [tr_oat hr]; exact q)
    rwa [tr_oat hr] at this
/-- nobody gains: what a right gets by another ranking is no better than the best of the stable ones -/
theorem no_gain_r (hs : SidesOk A B) (hr : r < B.length) (hk : RkOk A.length k) (h : Stb A B w) (b : WorstP (sPL A B) w) (h' : Stb A (B.set r k) o') {y : Nat} (e : hld o' r = some y) (hy : y ∈ row B r) : ∃ x, hld w r = some x ∧ ixo (row B r) x ≤ ixo (row B r) y := by
  have hs' := sides_swap hs
  have hsl := lie_sides (r := r) hs hk
  have s2 := swap_stb hsl h'
  have hr2 : r < (B.set r k).length := by simpa using hr
  have i2 : Stb (B.set r k) A (trO (B.set r k) o') := s2
  unfold Stb at i2
  rw [← lie_eq hr] at i2
  have ng := no_gain (sPL_ok hs') (l := r) (k := k) hr hk (worst_best hs h b) i2.1 i2.2 (r' := y) (by rw [tr_oat hr2]; exact e) hy
  rw [tr_oat hr] at ng
  cases q : hld w r with
  | none => rw [q] at ng; cases ng
  | some x =>
    rw [q] at ng
    refine ⟨x, rfl, ?_⟩
    have : decide (ixo (row B r) y < ixo (row B r) x) = false := ng
    simp at this
    exact this
/-- the lie that cuts behind the best -/
theorem cut_lie (hs : SidesOk A B) (hr : r < B.length) (h : Stb A B w) (b : WorstP (sPL A B) w) {x : Nat} (e : hld w r = some x) (h' : Stb A (B.set r ((row B r).take (ixo (row B r) x + 1))) o') : hld o' r = some x := by
  have hs' := sides_swap hs
  have w2 := swap_stb hs h
  have hxr : oat (trO B w) r = some x := by rw [tr_oat hr]; exact e
  have hx : x ∈ row B r := (stb_at hs' w2 r x hxr).2.1
  have hrow := hs.2.1.2.2 _ (row_mem hr)
  have hk : RkOk A.length ((row B r).take (ixo (row B r) x + 1)) := ⟨hrow.1.sublist (List.take_sublist _ _), fun y hy => hrow.2.1 y (List.mem_of_mem_take hy), hrow.2.2⟩
  have hsl := lie_sides (r := r) hs hk
  have hsl' := sides_swap hsl
  have hr2 : r < (B.set r ((row B r).take (ixo (row B r) x + 1))).length := by simpa using hr
  have st0 := stab_of (sPL_ok hs') w2.1 w2.2
  have xk : x ∈ (row B r).take (ixo (row B r) x + 1) := (take_ixo hrow.1).mpr ⟨hx, by omega⟩
  -- rights' best is stable in the market of the lie
  have st1 : StabP (sPL (B.set r ((row B r).take (ixo (row B r) x + 1))) A) (oat (trO B w)) := by
    have hself : lieV (sPL B A) r (row B r) = sPL B A := lie_self (V := sPL B A) hr
    have := relie (V := sPL B A) (l := r) (r := x) (k1 := row B r) (k2 := (row B r).take (ixo (row B r) x + 1)) (ν := oat (trO B w)) hr (by rw [hself]; exact st0) hxr xk (fun s hs1 hlt => by
      have h5 := hs1
      rw [take_ixo hrow.1] at h5
      refine ⟨h5.1, ?_⟩
      rw [ixo_take hrow.1 hs1, ixo_take hrow.1 xk] at hlt
      exact hlt)
    rwa [lie_eq hr] at this
  have ib : Stb (B.set r ((row B r).take (ixo (row B r) x + 1))) A (trO B w) := out_of (sPL_ok hsl') (by simp [trO, sPL]) st1
  have ib2 := swap_stb hsl' ib
  have so := swap_stb hsl h'
  obtain ⟨o2, i1, n1, b1⟩ := best_ex (sPL_ok hsl')
  have s2 : Stb _ A o2 := ⟨i1, n1⟩
  have w3 := swap_stb hsl' s2
  have wo : WorstP (sPL A (B.set r ((row B r).take (ixo (row B r) x + 1)))) (trO A o2) := worst_swap hsl (stab_of (sPL_ok hsl) w3.1 w3.2) (fun l q => (tr_iff hsl' s2 q l).symm) b1
  have some2 : (hld (trO A (trO B w)) r).isSome = true := by
    have := (hld_iff (stb_one hsl ib2) x r).mp ((tr_iff hsl' ib r x).mp hxr)
    rw [this]; rfl
  have all := rural_r hsl hr2 w3 wo h'
  have all2 := rural_r hsl hr2 w3 wo ib2
  rw [← all2, some2] at all
  obtain ⟨y, hy⟩ := Option.isSome_iff_exists.mp all
  have hyk : y ∈ (row B r).take (ixo (row B r) x + 1) := by
    have := (stb_at hsl' so r y (by rw [tr_oat hr2]; exact hy)).2.1
    rwa [row_set_same hr] at this
  obtain ⟨hy1, hy2⟩ := (take_ixo hrow.1).mp hyk
  obtain ⟨x', hx', le⟩ := no_gain_r hs hr hk h b h' hy hy1
  rw [e] at hx'
  cases hx'
  rw [hy, ixo_inj hx (by omega : ixo (row B r) x = ixo (row B r) y)]
end
end K92
set_option maxRecDepth 100000
set_option maxHeartbeats 1000000
namespace K92
open PySem PySem.Spec PyProof.Rows L2 RZ DL LamX
open C8 (call_isC pe_gc InsC)
open M90
variable [TabC]
theorem lc_T {M : Nat} {T Te : TD} {G : GD} {Tt : TTD} {vs : List Nat} {ε : Ev} {P : Dat → Prop} (h : T ε fun d => dLc M (iT fun _ P => P d) G Tt Te vs ε P) : dLc M (iT T) G Tt Te vs ε P := h
theorem lc_L {M : Nat} {T Te : TD} {G : GD} {Tt : TTD} {vs : List Nat} {ε : Ev} {P : Dat → Prop} (h : T ε fun d => dLc M (iL fun _ P => P d) G Tt Te vs ε P) : dLc M (iL T) G Tt Te vs ε P := h
theorem hold_in {C : Addr} {A B : List (List Nat)} {o : List (Option Nat)} {r : Nat} {P : Dat → Prop} (hs : SidesOk A B) (hr : r < B.length) (h : Stb A B o) (hP : P (oD (hld o r))) : S_holders_of C [Dat.obj C (fsS A B), outD o] fun d => fIx d (nD r) P := by
  refine ⟨A, B, o, rfl, hs.2.1.2.1, stb_len hs h, stb_lt hs h, stb_one hs h, ?_⟩
  have e : oat ((List.range B.length).map (hld o)) r = hld o r := oat_range hr
  refine Eq.mpr (fIx_olst (by simpa using hr)) ?_
  rw [e]
  exact hP
def lieO (B : List (List Nat)) (o w : List (Option Nat)) (r : Nat) : Option (List Nat) := if hld o r = hld w r then none else (hld w r).map fun x => (row B r).take (ixo (row B r) x + 1)
def S_lie_for (C : Addr) : List Dat → (Dat → Prop) → Prop := fun ds P => ∃ (A B : List (List Nat)) (r : Nat), ds = [pSides C A B, nD r] ∧ SidesOk A B ∧ r < B.length ∧ ∀ o w, Stb A B o → BestP (sPL A B) o → Stb A B w → WorstP (sPL A B) w → P (orD (lieO B o w r))
theorem len_lie_for {C : Addr} (ds : List Dat) (Q : Dat → Prop) (h : S_lie_for C ds Q) : ds.length = P_lie_for.length := by
  obtain ⟨A, B, r, rfl, _⟩ := h; rfl
theorem eqD_oo {a b : Option Nat} : eqD (oD a) (oD b) = decide (a = b) := by
  cases a <;> cases b <;> simp [oD, eqD, nD]
  rename_i a b
  omega
section
variable {P : Program} {w : World} {K : PySem.W.Frag} {mg : Str → Option Value} {base : Heap}
theorem ok_lie_for (g : Fx K mg base) : FnOk P w K mg base L2.CX0 5 g.f_lie_for g.fd_lie_for P_lie_for (spF 0 (S_lie_for g.C_Sides)) := by
  refine okD g.F_lie_for sc_lie_for len_lie_for (fun cdv A outer s H E hr => ?_)
  have nd := (sc_lie_for).nd
  refine ⟨_, SDs.cost (sds_cons (sd_drop (pd_call (ok_check_both g) (hr.mono (by decide)) (by rfl) g.g_check_both g.F_check_both.kp (b_check_both g) (pad_cons (pd_var (pv 0)) (pad_cons (pd_var (pv 1)) pad_nil)))) (sds_cons (sd_asgG ((pd_lc 64 rfl nd (pid_tup (pd_tup (pad_cons (pd_call (ok_lefts_best g) (hr.mono (by decide)) (by rfl) g.g_lefts_best g.F_lefts_best.kp (b_lefts_best g) (pad_cons (pd_var (pv 0)) pad_nil)) (pad_cons (pd_call (ok_rights_best g) (hr.mono (by decide)) (by rfl) g.g_rights_best g.F_rights_best.kp (b_rights_best g) (pad_cons (pd_var (pv 0)) pad_nil)) pad_nil)))) (blkOk_by (own := [("pairing", 5)]) (by kernel_rfl)) (fun _ _ _ _ _ => (pgd_name (i := 5) nd rfl (by first | exact .inl rfl | exact .inr rfl))) (fun _ _ _ _ _ => ptsd_nil) (fun _ _ _ _ _ => (pd_ix (ix_all (ru1 hr)) od_ix ((pd_call (ok_holders_of g) (hr.mono (by decide)) (by rfl) g.g_holders_of g.F_holders_of.kp (b_holders_of g) (pad_cons (pd_var (pv 0)) (pad_cons (pd_var (pv 5)) pad_nil)))).toSh ((pd_var (pv 1))).toSh (fun _ _ => rfl))))).frz (pgd_unl (n := 2) rfl (pgsd_cons (pgd_name (i := 2) nd rfl (.inl rfl)) (pgsd_cons (pgd_name (i := 3) nd rfl (.inl rfl)) pgsd_nil)))) (sds_cons (sd_if (ptd_cmp (op_eqD (ru0 hr)) od_eq ((pd_var (pv 2))).toSh ((pd_var (pv 3))).toSh (nomark _)) (sds_cons (sd_ret pd_non) sds_nil) sds_nil) (sds_cons (sd_asg (i := 4) (pd_ix (ix_all (ru1 hr)) od_ix ((pd_fld g.cl_Sides g.na_Sides_rights (pd_var (pv 0)))).toSh ((pd_var (pv 1))).toSh (fun _ _ => rfl)) nd rfl (.inl rfl)) (sds_cons (sd_ret (pd_slice ((pd_var (pv 4))).toSh pod_none (pod_some (pd_op op_addA od_add ((pd_tindex (pd_var (pv 4)) (pd_var (pv 3)))).toSh (pd_int).toSh)))) sds_nil))))) (by decide), fun ds Q h => ?_⟩
  obtain ⟨A, B, r, rfl, hs, hr, hQ⟩ := h
  have hm : B.length ≤ 20 := hs.2.1.2.1
  simp [pSides]
  refine ⟨A, B, r, rfl, hr, ?_⟩
  refine lc_T ⟨_, rfl, A, B, rfl, hs, fun o io no bo => ⟨_, rfl, A, B, rfl, hs, fun w iw nw bw => ⟨by simp, ?_⟩⟩⟩
  refine lc_tup [o, w] outD (fun v => some (oD (hld v r))) (fun P h => h) (by simp) (fun v hv R hR => ?_) ?_
  · simp
    have sv : Stb A B v := by
      simp at hv
      rcases hv with rfl | rfl
      · exact ⟨io, no⟩
      · exact ⟨iw, nw⟩
    exact hold_in hs hr sv hR
  · have hQ := hQ o w ⟨io, no⟩ bo ⟨iw, nw⟩ bw
    refine ⟨_, rfl, rfl, ?_⟩
    simp
    have hl : ∀ P : Dat → Prop, P (rk (row B r)) → fIx (rks B) (nD r) P := fun P h => Eq.mpr (fIx_rks hr) h
    by_cases e : hld o r = hld w r
    · refine .inr ⟨?_, ?_⟩
      · rw [e]; simp [eqD_oo]
      · simpa [lieO, e, orD] using hQ
    · refine .inl ⟨by rw [eqD_oo]; simp [e], ?_⟩
      have rr := rural_r hs hr ⟨iw, nw⟩ bw ⟨io, no⟩
      cases q : hld w r with
      | none =>
        rw [q] at rr e
        exact absurd (by simpa using rr) e
      | some x =>
        have hx : x ∈ row B r := (best_of_all hs hr ⟨iw, nw⟩ bw ⟨iw, nw⟩ q).1
        refine hl _ ⟨_, rfl, by simp, ixo (row B r) x, nD x, (dTIx_at hx).1, by simp [oD], fun m z h1 h2 => by simpa [oD] using (dTIx_at hx).2 m z h1 h2, ?_⟩
        have e1 : ((ixo (row B r) x : Int) + 1) = ((ixo (row B r) x + 1 : Nat) : Int) := by omega
        rw [e1]
        show Q (.tup (cut ((row B r).map nD) none (some ((ixo (row B r) x + 1 : Nat) : Int))))
        rw [cutT, ← List.map_take]
        rw [q] at e
        simpa [lieO, e, q, orD, rk] using hQ
end
/-- does what a right gets by a lie please it more -/
def hlpB (own : List Nat) (x y : Option Nat) : Bool := match y with
  | none => false
  | some y => decide (y ∈ own) && (match x with
    | none => true
    | some x => decide (ixo own y < ixo own x))
def S_is_lie_for (C : Addr) : List Dat → (Dat → Prop) → Prop := fun ds P => ∃ (A B : List (List Nat)) (r : Nat) (k : List Nat), ds = [pSides C A B, nD r, rk k] ∧ SidesOk A B ∧ r < B.length ∧ RkOk A.length k ∧
  ∀ o o', Stb A B o → BestP (sPL A B) o → Stb A (B.set r k) o' → BestP (sPL A (B.set r k)) o' → P (.bl (hlpB (row B r) (hld o r) (hld o' r)))
theorem len_is_lie_for {C : Addr} (ds : List Dat) (Q : Dat → Prop) (h : S_is_lie_for C ds Q) : ds.length = P_is_lie_for.length := by
  obtain ⟨A, B, r, k, rfl, _⟩ := h; rfl
section
variable {P : Program} {w : World} {K : PySem.W.Frag} {mg : Str → Option Value} {base : Heap}
theorem ok_is_lie_for (g : Fx K mg base) : FnOk P w K mg base L2.CX0 8 g.f_is_lie_for g.fd_is_lie_for P_is_lie_for (spF 0 (S_is_lie_for g.C_Sides)) := by
  refine okD g.F_is_lie_for sc_is_lie_for len_is_lie_for (fun cdv A outer s H E hr => ?_)
  have nd := (sc_is_lie_for).nd
  refine ⟨_, SDs.cost (sds_cons (sd_drop (pd_call (ok_check_both g) (hr.mono (by decide)) (by rfl) g.g_check_both g.F_check_both.kp (b_check_both g) (pad_cons (pd_var (pv 0)) (pad_cons (pd_var (pv 1)) pad_nil)))) (sds_cons (sd_if (ptd_not (ptd_val (pd_call (ok_is_ranking g) (hr.mono (by decide)) (by rfl) g.g_is_ranking g.F_is_ranking.kp (b_is_ranking g) (pad_cons (pd_var (pv 2)) (pad_cons (pd_callB call_lenA cd_len (by rfl) g.b_len boot_len (phd_cons ((pd_fld g.cl_Sides g.na_Sides_lefts (pd_var (pv 0)))).toSh phd_nil)) pad_nil))))) (sds_cons (sd_ret pd_bl) sds_nil) sds_nil) (sds_cons (sd_par (i := 3) (j := 4) (pmd_cons (m := .rep) (pd_make g.M_Sides (okI_Sides g) (hr.mono (by decide)) (by rfl) g.g_Sides (bI_Sides g) (pad_cons (pd_fld g.cl_Sides g.na_Sides_lefts (pd_var (pv 0))) (pad_cons (pd_call (ok_exchanged g) (hr.mono (by decide)) (by rfl) g.g_exchanged g.F_exchanged.kp (b_exchanged g) (pad_cons (pd_fld g.cl_Sides g.na_Sides_rights (pd_var (pv 0))) (pad_cons (pd_var (pv 1)) (pad_cons (pd_var (pv 2)) pad_nil)))) pad_nil))) (pmd_cons (m := .rep) (pd_ix (ix_all (ru1 hr)) od_ix ((pd_fld g.cl_Sides g.na_Sides_rights (pd_var (pv 0)))).toSh ((pd_var (pv 1))).toSh (fun _ _ => rfl)) pmd_nil)) rfl rfl nd rfl rfl (by decide) rfl rfl (by rfl)) (sds_cons (sd_asgG ((pd_lc 64 rfl nd (pid_tup (pd_tup (pad_cons (pd_var (pv 0)) (pad_cons (pd_var (pv 3)) pad_nil)))) (blkOk_by (own := [("some", 7)]) (by kernel_rfl)) (fun _ _ _ _ _ => (pgd_name (i := 7) nd rfl (by first | exact .inl rfl | exact .inr rfl))) (fun _ _ _ _ _ => ptsd_nil) (fun _ _ _ _ _ => (pd_ix (ix_all (ru1 hr)) od_ix ((pd_call (ok_holders_of g) (hr.mono (by decide)) (by rfl) g.g_holders_of g.F_holders_of.kp (b_holders_of g) (pad_cons (pd_var (pv 7)) (pad_cons (pd_call (ok_lefts_best g) (hr.mono (by decide)) (by rfl) g.g_lefts_best g.F_lefts_best.kp (b_lefts_best g) (pad_cons (pd_var (pv 7)) pad_nil)) pad_nil)))).toSh ((pd_var (pv 1))).toSh (fun _ _ => rfl))))).frz (pgd_unl (n := 2) rfl (pgsd_cons (pgd_name (i := 5) nd rfl (.inl rfl)) (pgsd_cons (pgd_name (i := 6) nd rfl (.inl rfl)) pgsd_nil)))) (sds_cons (sd_if ((pwd_or (ptd_cmp op_isA od_is ((pd_var (pv 6))).toSh (pd_non).toSh (nomark _)) (pwd_or1 (ptd_cmp (op_notinA (ru hr)) od_notin ((pd_var (pv 6))).toSh ((pd_var (pv 4))).toSh (by with_unfolding_all rfl))))).pt (sds_cons (sd_ret pd_bl) sds_nil) sds_nil) (sds_cons (sd_ret (pd_or (pd_cmp op_isA od_is ((pd_var (pv 5))).toSh (pd_non).toSh (nomark _)) (pd_one (pd_cmp op_lt od_C ((pd_tindex (pd_var (pv 4)) (pd_var (pv 6)))).toSh ((pd_tindex (pd_var (pv 4)) (pd_var (pv 5)))).toSh (nomark _))))) sds_nil)))))) (by decide), fun ds Q h => ?_⟩
  obtain ⟨A, B, r, k, rfl, hs, hr, hk, hQ⟩ := h
  have hm : B.length ≤ 20 := hs.2.1.2.1
  simp [pSides]
  have hsl := lie_sides (r := r) hs hk
  obtain ⟨o, io, no, bo⟩ := best_ex (sPL_ok hs)
  obtain ⟨o', io', no', bo'⟩ := best_ex (sPL_ok hsl)
  have hQ := hQ o o' ⟨io, no⟩ bo ⟨io', no'⟩ bo'
  refine ⟨A, B, r, rfl, hr, k, A.length, rfl, hk, .inr ⟨rfl, B, r, k, rfl, hr, hm, A, B.set r k, rfl, hsl, Eq.mpr (fIx_rks hr) ?_⟩⟩
  refine lc_T ⟨_, rfl, _, rfl, by simp, ?_⟩
  refine lc_tup [(B, o), (B.set r k, o')] (fun q => .obj g.C_Sides (fsS A q.1)) (fun q => some (oD (hld q.2 r))) (fun P h => h) (by simp) (fun q hq R hR => ?_) ?_
  · simp
    have hb : SidesOk A q.1 ∧ r < q.1.length ∧ Stb A q.1 q.2 ∧ BestP (sPL A q.1) q.2 := by
      simp at hq
      rcases hq with rfl | rfl
      · exact ⟨hs, hr, ⟨io, no⟩, bo⟩
      · exact ⟨hsl, by simpa using hr, ⟨io', no'⟩, bo'⟩
    refine ⟨A, q.1, rfl, hb.1, fun v iv nv bv => ?_⟩
    have e := best_uniq hb.1 ⟨iv, nv⟩ hb.2.2.1 bv hb.2.2.2
    rw [e]
    exact hold_in hb.1 hb.2.1 hb.2.2.1 hR
  · have hown := hs.2.1.2.2 _ (row_mem hr)
    refine ⟨_, rfl, rfl, ?_⟩
    simp
    cases q' : hld o' r with
    | none =>
      rw [q'] at hQ
      exact .inr ⟨rfl, by simpa [hlpB] using hQ⟩
    | some y =>
      rw [q'] at hQ
      refine .inl ⟨rfl, Eq.mpr (fIn_rk (neg := true) (r := row B r) (a := y)) ?_⟩
      by_cases hy : y ∈ row B r
      · refine .inl ⟨by simp [hy], ?_⟩
        cases q : hld o r with
        | none =>
          rw [q] at hQ
          exact .inr ⟨rfl, by simpa [hlpB, hy] using hQ⟩
        | some x =>
          rw [q] at hQ
          have hx : x ∈ row B r := (stb_at (sides_swap hs) (swap_stb hs ⟨io, no⟩) r x (by rw [tr_oat hr]; exact q)).2.1
          refine .inl ⟨rfl, _, rfl, by simp, ixo (row B r) y, nD y, (dTIx_at hy).1, by simp [oD], fun m z h1 h2 => by simpa [oD] using (dTIx_at hy).2 m z h1 h2, _, rfl, by simp, ixo (row B r) x, nD x, (dTIx_at hx).1, by simp [oD], fun m z h1 h2 => by simpa [oD] using (dTIx_at hx).2 m z h1 h2, ?_⟩
          simpa [hlpB, hy] using hQ
      · exact .inr ⟨by simp [hy], by simpa [hlpB, hy] using hQ⟩
end
end K92
set_option maxRecDepth 100000
set_option maxHeartbeats 2000000
/-! G25: steps of the law's walks. -/
namespace K92
open PySem PySem.Spec PyProof.Rows L2 RZ DL M90
variable [TabC]
section
variable {α : Type} {M : Nat} {T Te : TD} {U : TAD} {G : GD} {Tt : TTD} {ε : Ev} {vs : List Nat} {P : Dat → Prop}
theorem add_in {k : Int} {j n : Nat} {P : Dat → Prop} (hk : k = (j : Int)) (h : P (nD (j + n))) : fAdd (.int k) (nD n) P := by
  subst hk
  have e : (j : Int) + (n : Int) = ((j + n : Nat) : Int) := by omega
  show P (.int ((j : Int) + (n : Int)))
  rw [e]
  exact h
theorem add_n1 {n : Nat} {P : Dat → Prop} (h : P (nD (n + 1))) : fAdd (nD n) (.int 1) P := h
theorem take_in {k : Int} {P : Dat → Prop} (n : Nat) (hk : k = (n : Int)) (h0 : 0 < n) (h1 : n ≤ 1000) (h : ∀ d : Nat, d < n → P (nD d)) : S__law_take [.cell, .int k] P := by
  subst hk
  exact ⟨n, rfl, h0, h1, h⟩
theorem drawn_sides {n m : Nat} {f f' : Bool} {A B : List (List Nat)} (hA : Drawn n m f A) (hB : Drawn m n f' B) (hn : 1 ≤ n ∧ n ≤ 20) (hm : 1 ≤ m ∧ m ≤ 20) : SidesOk A B := by
  obtain ⟨a1, a2, _⟩ := hA
  obtain ⟨b1, b2, _⟩ := hB
  refine ⟨⟨by omega, by omega, fun r hr => ⟨(a2 r hr).1, fun x hx => ?_, by omega⟩⟩, ⟨by omega, by omega, fun r hr => ?_⟩, fun r hr x hx => ?_⟩
  · have := (a2 r hr).2.1 x hx
    omega
  · rw [a1]; exact b2 r hr
  · rw [b1]; exact (a2 r hr).2.1 x hx
theorem lc_any {n : Nat} (F : α → Dat) (p : α → Prop) (hT : ∀ P : List Dat → Prop, P [.int (n : Int)] → U ε P) (hl : n ≤ M) (hM : n ≤ 100000)
    (h : ∀ a, a < n → ∀ (R : Dat → Prop) (R0 : Prop), (∀ x, p x → R (F x)) → G (.int (a : Int)) (wipeD ε vs) fun ε2 => Tt ε2 fun b => if b = true then Te ε2 fun y => R y else R0) (hP : ∀ l : List α, l.length = n → (∀ x ∈ l, p x) → P (.lst (l.map F))) : dLc M (iR1 U) G Tt Te vs ε P :=
  hT _ ⟨n, rfl, by omega, by omega, by simp [rngD]; exact hl, fun i acc => ∃ l : List α, l.length = i ∧ (∀ x ∈ l, p x) ∧ acc = l.map F, ⟨[], rfl, by simp, rfl⟩, fun i d acc hd ⟨l, h1, h2, h3⟩ => by
    have hi : i < n := by
      have := (List.getElem?_eq_some_iff.mp hd).1
      simpa [rngD] using this
    have : d = .int (i : Int) := by
      simp [rngD, hi] at hd
      rw [← hd]
    subst this
    refine h i hi (fun y => ∃ l : List α, l.length = i + 1 ∧ (∀ x ∈ l, p x) ∧ acc ++ [y] = l.map F) _ fun x hx => ⟨l ++ [x], by simp [h1], fun z hz => ?_, by simp [h3]⟩
    rcases List.mem_append.mp hz with q | q
    · exact h2 z q
    · rw [List.mem_singleton.mp q]; exact hx, fun acc ⟨l, h1, h2, h3⟩ => by
    have h1' : l.length = n := by simpa [rngD] using h1
    rw [h3]
    exact hP l h1' h2⟩
theorem tup_in {xs : List Dat} {P : Dat → Prop} (h : P (.tup xs)) : fTup [.lst xs] P := h
theorem cutM {α : Type} (xs : List α) (a : Nat) {x : α} (h : xs[a]? = some x) : cut xs (some (a : Int)) (some ((a + 1 : Nat) : Int)) = [x] := by
  have hl := (List.getElem?_eq_some_iff.mp h).1
  unfold cut
  rw [HT.sIx_nat, HT.sIx_nat, Nat.min_eq_left (by omega), Nat.min_eq_left (by omega), show a + 1 - a = 1 by omega, List.take_one]
  rw [List.head?_drop, h]
  rfl
theorem cut21 (a b : Dat) : cut [a, b] none (some 1) = [a] := by
  have := cutT [a, b] 1
  exact this
@[simp] theorem gK_210 (a b c : Dat) : gK [2, 1, 0] [] [a, b, c] = [c, b, a] := rfl
@[simp] theorem gK_10 (a b : Dat) : gK [1, 0] [] [a, b] = [b, a] := rfl
@[simp] theorem gK_0 (a : Dat) : gK [0] [] [a] = [a] := rfl
@[simp] theorem gK_43210 (a b c d e : Dat) : gK [4, 3, 2, 1, 0] [] [a, b, c, d, e] = [e, d, c, b, a] := rfl
theorem get_oat {o : List (Option Nat)} {l : Nat} (h : l < o.length) : (o.map oD)[l]? = some (oD (oat o l)) := by simp [oat, h]
theorem rks_set {A : List (List Nat)} {a : Nat} {r : List Nat} (ha : a < A.length) : (A.map rk).take a ++ rk r :: (A.map rk).drop (a + 1) = (A.set a r).map rk := by
  rw [List.map_set, List.set_eq_take_append_cons_drop, if_pos (by simpa using ha)]
@[simp] theorem bb_same {b : Bool} {X : Prop} : ((b = false ∧ X) ∨ (b = true ∧ X)) = X := by
  apply propext
  cases b <;> simp
theorem rep_flat {α : Type} (n : Nat) (a : α) : (List.replicate n [a]).flatten = List.replicate n a := by
  induction n with
  | zero => rfl
  | succ n ih => rw [List.replicate_succ, List.flatten_cons, ih]; rfl
theorem at0_all {S : List Nat} {p : Nat → Prop} (h : ∀ x ∈ S, p x) (r : Nat) : r < S.length → p (at0 S r) := fun hr => h _ (at0_mem hr)
theorem for_zip {M : Nat} {U : TAD} {G : GD} {Ts : TSD} {E : DE} {ε : Ev} {xs ys : List Dat} (hT : ∀ P : List Dat → Prop, P [.lst xs, .lst ys] → U ε P) (hl : xs.length = ys.length) (hM : xs.length ≤ M) (Iv : Nat → Ev → Prop) (h0 : Iv 0 ε)
    (hs : ∀ i x y ε', xs[i]? = some x → ys[i]? = some y → Iv i ε' → G (.tup [x, y]) ε' fun ε2 => Ts { E with nx := Iv (i + 1), ct := Iv (i + 1), bk := E.nx } ε2) (hd : ∀ ε', Iv xs.length ε' → E.nx ε') : sFor M (iZp U) G Ts E ε :=
  hT _ ⟨_, _, xs, ys, rfl, .inl ⟨rfl, rfl⟩, by rw [zipD_len]; omega, Iv, h0, fun i d ε' h1 h2 => by
    have hi := (List.getElem?_eq_some_iff.mp h1).1
    rw [zipD_len] at hi
    have hx : i < xs.length := by omega
    have hy : i < ys.length := by omega
    rw [zipD_get (List.getElem?_eq_getElem hx) (List.getElem?_eq_getElem hy)] at h1
    cases h1
    exact hs i _ _ ε' (List.getElem?_eq_getElem hx) (List.getElem?_eq_getElem hy) h2, by rw [zipD_len, Nat.min_eq_left (by omega)]; exact hd⟩
theorem good_oD (n : Nat) (x : Option Nat) : goodD n (oD x) := by
  cases n with
  | zero => cases x with
    | none => exact .inl rfl
    | some b => exact .inr (.inr ⟨_, rfl⟩)
  | succ n => cases x with
    | none => exact .inl (.inl rfl)
    | some b => exact .inl (.inr (.inr ⟨_, rfl⟩))
theorem good_tup {n : Nat} {xs : List Dat} (h : xs.length ≤ 100) (h2 : ∀ x ∈ xs, goodD n x) : goodD (n + 1) (.tup xs) := .inr ⟨xs, .inl rfl, h, h2⟩
theorem good_lst {n : Nat} {xs : List Dat} (h : xs.length ≤ 100) (h2 : ∀ x ∈ xs, goodD n x) : goodD (n + 1) (.lst xs) := .inr ⟨xs, .inr rfl, h, h2⟩
theorem good_out {n : Nat} {o : List (Option Nat)} (h : o.length ≤ 100) : goodD (n + 1) (outD o) := good_tup (by simpa using h) fun x hx => by
  obtain ⟨y, _, rfl⟩ := List.mem_map.mp hx
  exact good_oD n y
theorem good_rk {n : Nat} {r : List Nat} (h : r.length ≤ 100) : goodD (n + 1) (rk r) := good_tup (by simpa using h) fun x hx => by
  obtain ⟨y, _, rfl⟩ := List.mem_map.mp hx
  exact good_oD n (some y)
theorem mem_oat {o : List (Option Nat)} {x : Option Nat} (h : x ∈ o) : ∃ l, l < o.length ∧ oat o l = x := by
  obtain ⟨l, hl, e⟩ := List.mem_iff_getElem.mp h
  exact ⟨l, hl, by simp [oat, hl, e]⟩
theorem oat_rep {n l : Nat} : oat (List.replicate n none) l = none := by
  unfold oat
  rw [List.getD_eq_getElem?_getD, List.getElem?_replicate]
  split <;> rfl
theorem rep_oD {n : Nat} : (List.replicate n [Dat.non]).flatten = (List.replicate n (none : Option Nat)).map oD := by
  rw [rep_flat, List.map_replicate]
  rfl
theorem fIx_lo {r : List (Option Nat)} {a : Nat} {P : Dat → Prop} (h : a < r.length) : fIx (.lst (r.map oD)) (nD a) P = P (oD (oat r a)) := fIx_out h
theorem for_lstN {M : Nat} {T : TD} {G : GD} {Ts : TSD} {E : DE} {ε : Ev} (h : T ε fun d => ∃ ds, d = .lst ds ∧ ds.length ≤ M ∧ ∃ Iv : Nat → Ev → Prop, Iv 0 ε ∧ (∀ i d ε', ds[i]? = some d → Iv i ε' → G d ε' fun ε2 => Ts { E with nx := Iv (i + 1), ct := Iv (i + 1), bk := E.nx } ε2) ∧ ∀ ε', Iv ds.length ε' → E.nx ε') : sFor M (iL T) G Ts E ε := h
theorem pl_rks (n : Nat) {x : List (List Nat)} : pl (n + 2) (rks x) = true := by simp [rks, rk]
theorem eqD_tnil {xs : List Dat} : eqD (.tup xs) (.tup []) = decide (xs = []) := by
  cases xs <;> simp [eqD, eqDs]
theorem rks_nil : rks [] = .tup [] := rfl
/-! loops and comprehensions over mapped lists, numbers as nD -/
theorem lc_rN {n : Nat} (g : Nat → Option Dat) (hT : ∀ P : List Dat → Prop, P [.int (n : Int)] → U ε P) (hl : n ≤ M) (hM : n ≤ 100000)
    (h : ∀ a, a < n → ∀ R : Option Dat → Prop, R (g a) → G (nD a) (wipeD ε vs) fun ε2 => Tt ε2 fun b => if b = true then Te ε2 fun y => R (some y) else R none) (hP : P (.lst ((List.range n).filterMap g))) : dLc M (iR1 U) G Tt Te vs ε P := lc_r1 g hT hl hM h hP
theorem map_get {F : α → Dat} {l : List α} {i : Nat} {d : Dat} (h : (l.map F)[i]? = some d) : ∃ a, l[i]? = some a ∧ d = F a := by
  rw [List.getElem?_map] at h
  cases e : l[i]? with
  | none => rw [e] at h; cases h
  | some a => rw [e] at h; cases h; exact ⟨a, rfl, rfl⟩
section
variable {Ts : TSD} {E : DE}
theorem for_mapL (l : List α) (F : α → Dat) (hT : ∀ P : Dat → Prop, P (.lst (l.map F)) → T ε P) (hl : l.length ≤ M) (Iv : Nat → Ev → Prop) (h0 : Iv 0 ε) (hs : ∀ i a ε', l[i]? = some a → Iv i ε' → G (F a) ε' fun ε2 => Ts { E with nx := Iv (i + 1), ct := Iv (i + 1), bk := E.nx } ε2) (hd : ∀ ε', Iv l.length ε' → E.nx ε') : sFor M (iL T) G Ts E ε :=
  for_lst hT (by simpa using hl) Iv h0 (fun i d ε' h1 h2 => by
    obtain ⟨a, ha, rfl⟩ := map_get h1
    exact hs i a ε' ha h2) (by rw [List.length_map]; exact hd)
theorem for_mapT (l : List α) (F : α → Dat) (hT : ∀ P : Dat → Prop, P (.tup (l.map F)) → T ε P) (hl : l.length ≤ M) (Iv : Nat → Ev → Prop) (h0 : Iv 0 ε) (hs : ∀ i a ε', l[i]? = some a → Iv i ε' → G (F a) ε' fun ε2 => Ts { E with nx := Iv (i + 1), ct := Iv (i + 1), bk := E.nx } ε2) (hd : ∀ ε', Iv l.length ε' → E.nx ε') : sFor M (iT T) G Ts E ε :=
  for_tup hT (by simpa using hl) Iv h0 (fun i d ε' h1 h2 => by
    obtain ⟨a, ha, rfl⟩ := map_get h1
    exact hs i a ε' ha h2) (by rw [List.length_map]; exact hd)
theorem for_rN {n : Nat} (hT : ∀ P : List Dat → Prop, P [.int (n : Int)] → U ε P) (hl : n ≤ M) (hM : n ≤ 100000) (Iv : Nat → Ev → Prop) (h0 : Iv 0 ε) (hs : ∀ i ε', i < n → Iv i ε' → G (nD i) ε' fun ε2 => Ts { E with nx := Iv (i + 1), ct := Iv (i + 1), bk := E.nx } ε2) (hd : ∀ ε', Iv n ε' → E.nx ε') : sFor M (iR1 U) G Ts E ε := for_r1 hT hl hM Iv h0 hs hd
end
theorem take_flat {β : Type} {l : List α} {i : Nat} {a : α} (f : α → List β) (h : l[i]? = some a) : (l.take (i + 1)).flatMap f = (l.take i).flatMap f ++ f a := by
  rw [List.take_add_one, h]
  simp
end
end K92
set_option maxRecDepth 100000
set_option maxHeartbeats 1000000
namespace K92
open PySem PySem.Spec PyProof.Rows L2 RZ DL LamX
open C8 (call_isC pe_gc InsC)
open M90
variable [TabC]
/-- all rows of t different numbers below n, one by one -/
def exR (n : Nat) (r : List Nat) : List (List Nat) := ((List.range n).filter fun x => !decide (x ∈ r)).map fun x => r ++ [x]
def genR (n : Nat) : Nat → List (List Nat)
  | 0 => [[]]
  | t + 1 => (genR n t).flatMap (exR n)
def allR (n : Nat) : Nat → List (List Nat)
  | 0 => []
  | t + 1 => allR n t ++ genR n t
theorem genR_len : ∀ n, n < 5 → ∀ t, t < 6 → (genR n t).length ≤ 24 := by decide +kernel
theorem allR_len : ∀ n, n < 5 → ∀ t, t < 6 → (allR n t).length ≤ 65 := by decide +kernel
theorem mem_exR {n : Nat} {r s : List Nat} : s ∈ exR n r ↔ ∃ x, x < n ∧ x ∉ r ∧ s = r ++ [x] := by
  unfold exR
  simp [List.mem_map, List.mem_filter]
  constructor
  · rintro ⟨x, ⟨h1, h2⟩, rfl⟩; exact ⟨x, h1, h2, rfl⟩
  · rintro ⟨x, h1, h2, rfl⟩; exact ⟨x, ⟨h1, h2⟩, rfl⟩
theorem mem_genR {n : Nat} : ∀ {t : Nat} {r : List Nat}, r ∈ genR n t ↔ r.length = t ∧ r.Nodup ∧ ∀ x ∈ r, x < n
  | 0, r => by
    simp only [genR, List.mem_singleton]
    constructor
    · rintro rfl; simp
    · rintro ⟨h, _⟩; exact List.eq_nil_of_length_eq_zero h
  | t + 1, r => by
    simp only [genR, List.mem_flatMap]
    constructor
    · rintro ⟨s, hs, hr⟩
      obtain ⟨h1, h2, h3⟩ := mem_genR.mp hs
      obtain ⟨x, hx, hn, rfl⟩ := mem_exR.mp hr
      refine ⟨by simp [h1], ?_, fun y hy => ?_⟩
      · rw [List.nodup_append]
        refine ⟨h2, by simp, fun a ha b hb e => ?_⟩
        rw [List.mem_singleton.mp hb] at e
        exact hn (e ▸ ha)
      · rcases List.mem_append.mp hy with q | q
        · exact h3 y q
        · rw [List.mem_singleton.mp q]; exact hx
    · rintro ⟨h1, h2, h3⟩
      have hne : r ≠ [] := fun e => by rw [e] at h1; simp at h1
      have e := List.dropLast_concat_getLast hne
      refine ⟨r.dropLast, mem_genR.mpr ⟨by simp [h1], h2.sublist (List.dropLast_sublist _), fun x hx => h3 x ((List.dropLast_sublist _).subset hx)⟩, mem_exR.mpr ⟨r.getLast hne, h3 _ (List.getLast_mem hne), fun hm => ?_, e.symm⟩⟩
      rw [← e, List.nodup_append] at h2
      exact h2.2.2 _ hm _ (by simp) rfl
theorem mem_allR {n : Nat} : ∀ {t : Nat} {r : List Nat}, r ∈ allR n t ↔ r.length < t ∧ r.Nodup ∧ ∀ x ∈ r, x < n
  | 0, r => by simp [allR]
  | t + 1, r => by
    simp only [allR, List.mem_append, mem_allR, mem_genR]
    constructor
    · rintro (⟨h1, h2⟩ | ⟨h1, h2⟩)
      · exact ⟨by omega, h2⟩
      · exact ⟨by omega, h2⟩
    · rintro ⟨h1, h2⟩
      rcases Nat.lt_or_ge r.length t with q | q
      · exact .inl ⟨q, h2⟩
      · exact .inr ⟨by omega, h2⟩
theorem nd_len {n : Nat} {r : List Nat} (h : r.Nodup) (h2 : ∀ x ∈ r, x < n) : r.length ≤ n := by
  have h1 : r.length ≤ (List.range n).length := List.Nodup.length_le_of_subset h fun x hx => List.mem_range.mpr (h2 x hx)
  rwa [List.length_range] at h1
def S__law_all_rankings : List Dat → (Dat → Prop) → Prop := fun ds P => ∃ n : Nat, ds = [nD n] ∧ n ≤ 4 ∧ ∀ L : List (List Nat), (∀ r, r ∈ L ↔ r.Nodup ∧ ∀ x ∈ r, x < n) → L.length ≤ 65 → P (.lst (L.map rk))
theorem len__law_all_rankings (ds : List Dat) (Q : Dat → Prop) (h : S__law_all_rankings ds Q) : ds.length = P__law_all_rankings.length := by
  obtain ⟨n, rfl, _⟩ := h; rfl
section
variable {P : Program} {w : World} {K : PySem.W.Frag} {mg : Str → Option Value} {base : Heap}
theorem ok__law_all_rankings (g : Fx K mg base) : FnOk P w K mg base L2.CX0 1 g.f__law_all_rankings g.fd__law_all_rankings P__law_all_rankings (spF 0 S__law_all_rankings) := by
  refine okD g.F__law_all_rankings sc__law_all_rankings len__law_all_rankings (fun cdv A outer s H E hr => ?_)
  have nd := (sc__law_all_rankings).nd
  refine ⟨_, SDs.cost (sds_cons (sd_par (i := 1) (j := 2) (pmd_cons (m := .rep) ((pd_lst (pad_cons (pd_tup pad_nil) pad_nil))).frz (pmd_cons (m := .rep) ((pd_lst pad_nil)).frz pmd_nil)) rfl rfl nd rfl rfl (by decide) rfl rfl (by rfl)) (sds_cons (sd_for 1024 PassesOwn.never rfl (pid_range1 (by rfl) g.b_range (pad_cons (pd_op op_addA od_add ((pd_var (pv 0))).toSh (pd_int).toSh) pad_nil)) (pgd_name (i := 3) nd rfl (.inl rfl)) (sds_cons (sd_par (i := 2) (j := 4) (pmd_cons (m := .rep) (pd_op op_addA od_add ((pd_var (pv 2))).toSh ((pd_var (pv 1))).toSh) (pmd_cons (m := .rep) ((pd_lst pad_nil)).frz pmd_nil)) rfl rfl nd rfl rfl (by decide) rfl rfl (by rfl)) (sds_cons (sd_for 1024 PassesOwn.never rfl (pid_list (pd_var (pv 1))) (pgd_name (i := 5) nd rfl (.inr rfl)) (sds_cons (sd_asg (i := 4) (pd_op op_addA od_add ((pd_var (pv 4))).toSh ((pd_lc 1024 rfl nd (pid_range1 (by rfl) g.b_range (pad_cons (pd_var (pv 0)) pad_nil)) (blkOk_by (own := [("other", 6)]) (by kernel_rfl)) (fun _ _ _ _ _ => (pgd_name (i := 6) nd rfl (by first | exact .inl rfl | exact .inr rfl))) (fun _ _ _ _ _ => (ptsd_one (ptd_cmp (op_notinA (ru hr)) od_notin ((pd_var (pv 6))).toSh ((pd_var (pv 5))).toSh (by with_unfolding_all rfl)))) (fun _ _ _ _ _ => (pd_op op_addA od_add ((pd_var (pv 5))).toSh ((pd_tup (pad_cons (pd_var (pv 6)) pad_nil))).toSh)))).toSh) nd rfl (.inl rfl)) sds_nil)) (sds_cons (sd_asg (i := 1) (pd_var (pv 4)) nd rfl (.inl rfl)) sds_nil)))) (sds_cons (sd_ret (pd_var (pv 2))) sds_nil))) (by decide), fun ds Q h => ?_⟩
  obtain ⟨n, rfl, h1, hQ⟩ := h
  simp
  refine for_rN (n := n + 1) (fun P h => ⟨_, rfl, h⟩) (by omega) (by omega) (fun i ε => ∃ x3 x4 x5 x6 : Sl, ε = [.val (nD n), .val (.lst ((genR n i).map rk)), .val (.lst ((allR n i).map rk)), x3, x4, x5, x6]) ⟨_, _, _, _, rfl⟩ (fun i ε hi ⟨x3, x4, x5, x6, hε⟩ => ?_) (fun ε ⟨x3, x4, x5, x6, hε⟩ => ?_)
  · subst hε
    have l1 := genR_len n (by omega) i (by omega)
    have l2 := allR_len n (by omega) i (by omega)
    have l3 := genR_len n (by omega) (i + 1) (by omega)
    simp
    refine ⟨by omega, ?_⟩
    refine for_mapL (genR n i) rk (fun P h => by simpa using h) (by omega) (fun j ε => ∃ x5 x6 : Sl, ε = [.val (nD n), .val (.lst ((genR n i).map rk)), .val (.lst ((allR n (i + 1)).map rk)), .val (nD i), .val (.lst ((((genR n i).take j).flatMap (exR n)).map rk)), x5, x6]) ⟨x5, x6, by simp [allR]⟩ (fun j r ε hr ⟨x5, x6, hε⟩ => ?_) (fun ε ⟨x5, x6, hε⟩ => ?_)
    · subst hε
      have hrm := mem_genR.mp (List.mem_of_getElem? hr)
      have hlen := nd_len hrm.2.1 hrm.2.2
      simp
      refine lc_rN (n := n) (fun x => if (!decide (x ∈ r)) = true then some (rk (r ++ [x])) else none) (fun P h => by simp; exact h) (by omega) (by omega) (fun x hx R hR => ?_) ?_
      · simp
        by_cases e : x ∈ r
        · simp [e] at hR ⊢
          exact hR
        · simp [e] at hR ⊢
          have h9 : fAdd (.tup (r.map nD)) (.tup [nD x]) (fun y => R (some y)) := ⟨by simp; omega, by simpa [rk] using hR⟩
          exact h9
      · rw [fm_if]
        have e : ((List.range n).filter fun x => !decide (x ∈ r)).map (fun x => rk (r ++ [x])) = (exR n r).map rk := by simp [exR, List.map_map, Function.comp_def]
        rw [e]
        have e2 := take_flat (exR n) hr
        have l4 : (((genR n i).take j).flatMap (exR n)).length + (exR n r).length ≤ 24 := by
          have h1 : (((genR n i).take (j + 1)).flatMap (exR n)).length ≤ (genR n (i + 1)).length := by
            show _ ≤ ((genR n i).flatMap (exR n)).length
            conv => rhs; rw [← List.take_append_drop (j + 1) (genR n i), List.flatMap_append, List.length_append]
            omega
          rw [e2, List.length_append] at h1
          omega
        exact ⟨by rw [List.length_map, List.length_map]; omega, by rw [e2, List.map_append]⟩
    · subst hε
      simp
      rfl
  · subst hε
    have l2 := allR_len n (by omega) (n + 1) (by omega)
    simp
    exact hQ _ (fun r => mem_allR.trans ⟨fun h => h.2, fun h => ⟨by have := nd_len h.1 h.2; omega, h⟩⟩) l2
end
/-- a statement as a Bool -/
noncomputable def decP (p : Prop) : Bool := @decide p (Classical.propDecidable p)
theorem decP_iff {p : Prop} : decP p = true ↔ p := by
  unfold decP
  exact @decide_eq_true_iff p (Classical.propDecidable p)
/-- the pairings of the first lefts, one by one -/
def exS (A B : List (List Nat)) (i : Nat) (o : List (Option Nat)) : List (Option Nat) := none :: ((row A i).filter fun r => decide (i ∈ row B r) && !decide (some r ∈ o)).map some
def genS (A B : List (List Nat)) : Nat → List (List (Option Nat))
  | 0 => [[]]
  | i + 1 => (genS A B i).flatMap fun o => (exS A B i o).map fun x => o ++ [x]
theorem oat_app {o : List (Option Nat)} {x : Option Nat} {l : Nat} : oat (o ++ [x]) l = if l < o.length then oat o l else if l = o.length then x else none := by
  unfold oat
  rw [List.getD_eq_getElem?_getD, List.getElem?_append]
  split
  · rw [List.getD_eq_getElem?_getD]
  · split
    · rename_i h; subst h; simp
    · rename_i h1 h2
      have : l - o.length ≠ 0 := by omega
      have h3 : [x].length ≤ l - o.length := by simp; omega
      rw [List.getElem?_eq_none h3]; rfl
theorem mem_oat_iff {o : List (Option Nat)} {r : Nat} : some r ∈ o ↔ ∃ l, oat o l = some r := by
  constructor
  · intro h
    obtain ⟨l, hl, e⟩ := mem_oat h
    exact ⟨l, e⟩
  · rintro ⟨l, e⟩
    have hl := oat_some_lt e
    rw [oat_lt hl] at e
    rw [← e]
    exact List.getElem_mem hl
/-- pairs that fit, each right once, lefts below i -/
def Prs (A B : List (List Nat)) (i : Nat) (o : List (Option Nat)) : Prop := o.length = i ∧ (∀ l r, oat o l = some r → r ∈ row A l ∧ l ∈ row B r) ∧ One o
theorem mem_genS {A B : List (List Nat)} : ∀ {i : Nat} {o : List (Option Nat)}, o ∈ genS A B i ↔ Prs A B i o
  | 0, o => by
    simp only [genS, List.mem_singleton]
    constructor
    · rintro rfl
      exact ⟨rfl, fun l r h => by simp [oat] at h, fun l y r h => by simp [oat] at h⟩
    · rintro ⟨h, _⟩; exact List.eq_nil_of_length_eq_zero h
  | i + 1, o => by
    simp only [genS, List.mem_flatMap, List.mem_map]
    constructor
    · rintro ⟨p, hp, x, hx, rfl⟩
      obtain ⟨h1, h2, h3⟩ := mem_genS.mp hp
      have hx2 : ∀ r, x = some r → r ∈ row A i ∧ i ∈ row B r ∧ some r ∉ p := fun r e => by
        subst e
        simp [exS] at hx
        exact ⟨hx.1, hx.2.1, hx.2.2⟩
      refine ⟨by simp [h1], fun l r e => ?_, fun l y r e1 e2 => ?_⟩
      · rw [oat_app] at e
        split at e
        · exact h2 l r e
        · split at e
          · rename_i q; rw [q, h1]; obtain ⟨a, b, _⟩ := hx2 r e; exact ⟨a, b⟩
          · cases e
      · rw [oat_app] at e1 e2
        split at e1
        · split at e2
          · exact h3 l y r e1 e2
          · split at e2
            · exact ((hx2 r e2).2.2 (mem_oat_iff.mpr ⟨l, e1⟩)).elim
            · cases e2
        · split at e1
          · split at e2
            · exact ((hx2 r e1).2.2 (mem_oat_iff.mpr ⟨y, e2⟩)).elim
            · split at e2
              · omega
              · cases e2
          · cases e1
    · rintro ⟨h1, h2, h3⟩
      have hne : o ≠ [] := fun e => by rw [e] at h1; simp at h1
      have e := List.dropLast_concat_getLast hne
      generalize o.dropLast = p at *
      generalize o.getLast hne = x at *
      subst e
      have hp : p.length = i := by simpa using h1
      have low : ∀ l r, oat p l = some r → oat (p ++ [x]) l = some r := fun l r h => by rw [oat_app, if_pos (oat_some_lt h)]; exact h
      have top : oat (p ++ [x]) i = x := by rw [oat_app, if_neg (by omega), if_pos hp.symm]
      refine ⟨p, mem_genS.mpr ⟨hp, fun l r h => h2 l r (low l r h), fun l y r a b => h3 l y r (low l r a) (low y r b)⟩, x, ?_, rfl⟩
      cases x with
      | none => simp [exS]
      | some r =>
        obtain ⟨a, b⟩ := h2 i r top
        simp [exS]
        refine ⟨a, b, fun hm => ?_⟩
        obtain ⟨l, hl⟩ := mem_oat_iff.mp hm
        have := h3 i l r top (low l r hl)
        have := oat_some_lt hl
        omega
theorem exS_len {A B : List (List Nat)} {i : Nat} {o : List (Option Nat)} : (exS A B i o).length ≤ (row A i).length + 1 := by
  have := List.length_filter_le (fun r => decide (i ∈ row B r) && !decide (some r ∈ o)) (row A i)
  simp [exS]
  omega
theorem flat_len {α β : Type} {f : α → List β} {k : Nat} : ∀ {l : List α}, (∀ a ∈ l, (f a).length ≤ k) → (l.flatMap f).length ≤ l.length * k
  | [], _ => by simp
  | a :: l, h => by
    have h1 := h a (by simp)
    have h2 := flat_len (l := l) fun b hb => h b (by simp [hb])
    rw [List.flatMap_cons, List.length_append, List.length_cons, Nat.succ_mul]
    omega
theorem genS_len {A B : List (List Nat)} (h : ∀ l, (row A l).length ≤ 3) : ∀ i, (genS A B i).length ≤ 4 ^ i
  | 0 => by simp [genS]
  | i + 1 => by
    have h1 := genS_len (B := B) h i
    have h2 : (genS A B (i + 1)).length ≤ (genS A B i).length * 4 := flat_len fun o _ => by
      rw [List.length_map]
      have := exS_len (A := A) (B := B) (i := i) (o := o)
      have := h i
      omega
    rw [Nat.pow_succ]
    exact Nat.le_trans h2 (Nat.mul_le_mul_right 4 h1)
/-- a pairing that the law does not block is stable -/
theorem stb_blk {A B : List (List Nat)} {o : List (Option Nat)} (hs : SidesOk A B) (hp : Prs A B A.length o) : (¬ ∃ l r, PBlk A B o l r) ↔ Stb A B o := by
  obtain ⟨h1, h2, h3⟩ := hp
  have hd : ∀ {l r : Nat}, oat o l = some r → (memb o r).head? = some l := fun {l r} e => by
    cases q : (memb o r).head? with
    | none =>
      have : memb o r = [] := by simpa using q
      have hm := mem_memb.mpr e
      rw [this] at hm
      simp at hm
    | some y => rw [h3 l y r e (memb_head q)]
  constructor
  · intro nb
    refine out_of (sPL_ok hs) (by simpa [sPL] using h1) ⟨fun l r e => ?_, fun l r hl hr hab => ?_⟩
    · have := oat_some_lt e
      refine ⟨by simpa [sPL] using (by omega : l < A.length), (h2 l r e).1, (ChL_one hs).mpr ⟨(h2 l r e).2, by simp [e], fun y hy hyr => ?_⟩⟩
      have hyr' : oat o y = some r := by simpa using hyr
      rw [h3 l y r e hyr']
      exact Nat.le_refl _
    · intro hc
      obtain ⟨c1, c2, c3⟩ := (ChL_one hs).mp hc
      refine nb ⟨l, r, hl, hr, c1, hab, ?_⟩
      cases q : (memb o r).head? with
      | none => rfl
      | some y =>
        have ey := memb_head q
        have hy := (h2 y r ey).2
        have le := c3 y hy (by simp [ey])
        show decide (ixo (row B r) l < ixo (row B r) y) = true
        rw [decide_eq_true_eq]
        rcases Nat.lt_or_ge (ixo (row B r) l) (ixo (row B r) y) with z | z
        · exact z
        · have e2 : l = y := ixo_inj c1 (Nat.le_antisymm le z)
          subst e2
          have hab' : abB (row A l) r (oat o l) = true := hab
          rw [ey] at hab'
          have : decide (ixo (row A l) r < ixo (row A l) r) = true := hab'
          simp at this
  · rintro st ⟨l, r, hl, hr, hlr, hab, hb⟩
    obtain ⟨y, hy, lt⟩ := (stab_one hs (stab_of (sPL_ok hs) st.1 st.2)).2 l r hlr hr hab
    rw [hd hy] at hb
    have : decide (ixo (row B r) l < ixo (row B r) y) = true := hb
    simp at this
    omega
theorem stb_prs {A B : List (List Nat)} {o : List (Option Nat)} (hs : SidesOk A B) (h : Stb A B o) : Prs A B A.length o :=
  ⟨by have := h.1.len; simpa [sPL] using this, fun l r e => ⟨(stb_at hs h l r e).2.1, (stb_at hs h l r e).2.2.1⟩, stb_one hs h⟩
theorem any_oD {o : List (Option Nat)} {r : Nat} : ((o.map oD).any fun z => eqD z (nD r)) = decide (some r ∈ o) := by
  rw [Bool.eq_iff_iff]
  simp [List.any_eq_true]
theorem fIn_out {neg : Bool} {r : Nat} {o : List (Option Nat)} {P : Dat → Prop} (h : P (.bl (neg != decide (some r ∈ o)))) : fIn neg (nD r) (outD o) P := by
  refine ⟨by simp, by simp, ?_⟩
  rw [any_oD]
  exact h
theorem flat_pre {α β : Type} (f : α → List β) (l : List α) (j : Nat) : ((l.take j).flatMap f).length ≤ (l.flatMap f).length := by
  conv => rhs; rw [← List.take_append_drop j l, List.flatMap_append, List.length_append]
  omega
def S__law_all_stable : List Dat → (Dat → Prop) → Prop := fun ds P => ∃ (A B : List (List Nat)), ds = [rks A, rks B] ∧ SidesOk A B ∧ A.length ≤ 4 ∧ B.length ≤ 3 ∧ ∀ L : List (List (Option Nat)), (∀ o, o ∈ L ↔ Stb A B o) → L.length ≤ 256 → P (.lst (L.map outD))
theorem len__law_all_stable (ds : List Dat) (Q : Dat → Prop) (h : S__law_all_stable ds Q) : ds.length = P__law_all_stable.length := by
  obtain ⟨A, B, rfl, _⟩ := h; rfl
section
variable {P : Program} {w : World} {K : PySem.W.Frag} {mg : Str → Option Value} {base : Heap}
theorem ok__law_all_stable (g : Fx K mg base) : FnOk P w K mg base L2.CX0 3 g.f__law_all_stable g.fd__law_all_stable P__law_all_stable (spF 0 S__law_all_stable) := by
  refine okD g.F__law_all_stable sc__law_all_stable len__law_all_stable (fun cdv A outer s H E hr => ?_)
  have nd := (sc__law_all_stable).nd
  refine ⟨_, SDs.cost (sds_cons (sd_asg (i := 2) ((pd_lst (pad_cons (pd_tup pad_nil) pad_nil))).frz nd rfl (.inl rfl)) (sds_cons (sd_for 1024 PassesOwn.never rfl (pid_range1 (by rfl) g.b_range (pad_cons (pd_callB call_lenA cd_len (by rfl) g.b_len boot_len (phd_cons ((pd_var (pv 0))).toSh phd_nil)) pad_nil)) (pgd_name (i := 3) nd rfl (.inr rfl)) (sds_cons (sd_asgO (i := 4) (pd_lst pad_nil) nd rfl (.inl rfl)) (sds_cons (sd_for 1024 PassesOwn.never rfl (pid_list (pd_var (pv 2))) (pgd_name (i := 5) nd rfl (.inr rfl)) (sds_cons (sd_for 1024 PassesOwn.never rfl (pid_list (pd_op op_addA od_add ((pd_lst (pad_cons pd_non pad_nil))).toSh ((pd_lc 1024 rfl nd (pid_tup (pd_ix (ix_all (ru1 hr)) od_ix ((pd_var (pv 0))).toSh ((pd_var (pv 3))).toSh (fun _ _ => rfl))) (blkOk_by (own := [("right", 6)]) (by kernel_rfl)) (fun _ _ _ _ _ => (pgd_name (i := 6) nd rfl (by first | exact .inl rfl | exact .inr rfl))) (fun _ _ _ _ _ => (ptsd_one ((pwd_and (ptd_cmp (op_inA (ru hr)) od_in ((pd_var (pv 3))).toSh ((pd_ix (ix_all (ru1 hr)) od_ix ((pd_var (pv 1))).toSh ((pd_var (pv 6))).toSh (fun _ _ => rfl))).toSh (by with_unfolding_all rfl)) (pwd_and1 (ptd_cmp (op_notinA (ru hr)) od_notin ((pd_var (pv 6))).toSh ((pd_var (pv 5))).toSh (by with_unfolding_all rfl))))).pt)) (fun _ _ _ _ _ => (pd_var (pv 6))))).toSh)) (pgd_name (i := 6) nd rfl (.inl rfl)) (sds_cons (sd_app (pv 4) (pd_op op_addA od_add ((pd_var (pv 5))).toSh ((pd_tup (pad_cons (pd_var (pv 6)) pad_nil))).toSh)) sds_nil)) sds_nil)) (sds_cons ((sd_asg (i := 2) (pd_var (pv 4)) nd rfl (.inl rfl)).frz 4) sds_nil)))) (sds_cons (sd_ret ((pd_lc 1024 rfl nd (pid_list (pd_var (pv 2))) (blkOk_by (own := [("row", 5)]) (by kernel_rfl)) (fun _ _ _ _ _ => (pgd_name (i := 5) nd rfl (by first | exact .inl rfl | exact .inr rfl))) (fun _ _ _ _ _ => (ptsd_one (ptd_not (ptd_val (pd_call (ok__law_blocks g) (hr.mono (by decide)) (by rfl) g.g__law_blocks g.F__law_blocks.kp (b__law_blocks g) (pad_cons (pd_var (pv 0)) (pad_cons (pd_var (pv 1)) (pad_cons (pd_var (pv 5)) pad_nil)))))))) (fun _ _ _ _ _ => (pd_var (pv 5))))).frz) sds_nil))) (by decide), fun ds Q h => ?_⟩
  obtain ⟨A, B, rfl, hs, hA, hB, hQ⟩ := h
  have hrow : ∀ l, (row A l).length ≤ 3 := fun l => by
    rcases Nat.lt_or_ge l A.length with q | q
    · have h1 := hs.1.2.2 _ (row_mem q)
      have h2 := hs.2.2 _ (row_mem q)
      have := nd_len h1.1 h2
      omega
    · rw [row_out q]; simp
  have hgen : ∀ i, i ≤ 4 → (genS A B i).length ≤ 256 := fun i hi => Nat.le_trans (genS_len hrow i) (Nat.le_trans (Nat.pow_le_pow_right (by omega) hi) (by decide))
  simp
  refine for_rN (n := A.length) (fun P h => by simp; exact h) (by omega) (by omega) (fun i ε => ∃ x3 x4 x5 x6 : Sl, ε = [.val (rks A), .val (rks B), .val (.lst ((genS A B i).map outD)), x3, x4, x5, x6]) ⟨_, _, _, _, rfl⟩ (fun i ε hi ⟨x3, x4, x5, x6, hε⟩ => ?_) (fun ε ⟨x3, x4, x5, x6, hε⟩ => ?_)
  · subst hε
    have l1 := hgen i (by omega)
    have l2 := hgen (i + 1) (by omega)
    simp
    refine for_mapL (genS A B i) outD (fun P h => by simpa using h) (by omega) (fun j ε => ∃ x5 x6 : Sl, ε = [.val (rks A), .val (rks B), .val (.lst ((genS A B i).map outD)), .val (nD i), .own (.lst ((((genS A B i).take j).flatMap fun o => (exS A B i o).map fun x => o ++ [x]).map outD)), x5, x6]) ⟨x5, x6, by simp⟩ (fun j o ε ho ⟨x5, x6, hε⟩ => ?_) (fun ε ⟨x5, x6, hε⟩ => ?_)
    · subst hε
      have hpo := mem_genS.mp (List.mem_of_getElem? ho)
      have l3 : (exS A B i o).length ≤ 4 := by
        have := exS_len (A := A) (B := B) (i := i) (o := o)
        have := hrow i
        omega
      have l4 := flat_pre (fun o => (exS A B i o).map fun x => o ++ [x]) (genS A B i) j
      have l5 : (((genS A B i).take j).flatMap fun o => (exS A B i o).map fun x => o ++ [x]).length ≤ 256 := Nat.le_trans l4 l2
      simp
      refine for_mapL (exS A B i o) oD (fun P h => ?_) (by omega) (fun t ε => ∃ x6 : Sl, ε = [.val (rks A), .val (rks B), .val (.lst ((genS A B i).map outD)), .val (nD i), .own (.lst (((((genS A B i).take j).flatMap fun o => (exS A B i o).map fun x => o ++ [x]) ++ ((exS A B i o).take t).map fun x => o ++ [x]).map outD)), .val (outD o), x6]) ⟨x6, by simp⟩ (fun t x ε hx ⟨x6, hε⟩ => ?_) (fun ε ⟨x6, hε⟩ => ?_)
      · refine ⟨by simp, ?_⟩
        refine lc_tup (row A i) nD (fun r => if (decide (i ∈ row B r) && !decide (some r ∈ o)) = true then some (nD r) else none) (fun P h => ?_) (by have := hrow i; omega) (fun r hr R hR => ?_) ?_
        · simp
          exact Eq.mpr (fIx_rks hi) h
        · have hrB : r < B.length := hs.2.2 _ (row_mem hi) r hr
          simp
          refine Eq.mpr (fIx_rks hrB) ?_
          refine Eq.mpr (fIn_rk (neg := false) (r := row B r) (a := i)) ?_
          by_cases e1 : i ∈ row B r
          · refine .inr ⟨by simp [e1], fIn_out ?_⟩
            by_cases e2 : some r ∈ o
            · exact .inl ⟨by simp [e2], by simpa [e1, e2] using hR⟩
            · exact .inr ⟨by simp [e2], by simpa [e1, e2] using hR⟩
          · exact .inl ⟨by simp [e1], by simpa [e1] using hR⟩
        · rw [fm_if]
          have e : (exS A B i o).map oD = [Dat.non] ++ ((row A i).filter fun r => decide (i ∈ row B r) && !decide (some r ∈ o)).map nD := by simp [exS, oD, Function.comp_def]
          rw [e] at h
          refine ⟨?_, h⟩
          have := List.length_filter_le (fun r => decide (i ∈ row B r) && !decide (some r ∈ o)) (row A i)
          have := hrow i
          simp
          omega
      · subst hε
        simp
        simp at l5
        have ho1 := hpo.1
        refine ⟨by simp; omega, by omega, ?_⟩
        rw [List.take_add_one, List.getElem?_map, hx]
        simp [outD]
      · subst hε
        simp
        rw [take_flat _ ho]
        simp
    · subst hε
      simp
      rfl
  · subst hε
    have l1 := hgen A.length (by omega)
    simp
    refine lc_lst (genS A B A.length) outD (fun o => if (!decP (∃ l r, PBlk A B o l r)) = true then some (outD o) else none) (fun P h => by simpa using h) (by omega) (fun o ho R hR => ?_) ?_
    · have hp := mem_genS.mp ho
      simp
      refine ⟨A, B, o, rfl, hs, ⟨hp.1, fun l r e => ?_⟩, fun b hb => ?_⟩
      · have := hp.2.1 l r e
        have h3 := hp.1
        have h4 := oat_some_lt e
        exact ⟨by omega, row_of_mem this.2, this.1, this.2⟩
      · have e : b = decP (∃ l r, PBlk A B o l r) := by rw [Bool.eq_iff_iff, hb, decP_iff]
        rw [e]
        cases q : decP (∃ l r, PBlk A B o l r) with
        | true => simpa [q] using hR
        | false => simpa [q] using hR
    · rw [fm_if]
      refine hQ _ (fun o => ?_) (Nat.le_trans (List.length_filter_le _ _) l1)
      rw [List.mem_filter]
      constructor
      · rintro ⟨h1, h2⟩
        refine (stb_blk hs (mem_genS.mp h1)).mp fun h => ?_
        rw [decP_iff.mpr h] at h2
        simp at h2
      · intro h
        have hp := stb_prs hs h
        refine ⟨mem_genS.mpr hp, ?_⟩
        have := (stb_blk hs hp).mpr h
        cases q : decP (∃ l r, PBlk A B o l r) with
        | true => exact (this (decP_iff.mp q)).elim
        | false => rfl
end
end K92
set_option maxRecDepth 100000
set_option maxHeartbeats 1000000
namespace K92
open PySem PySem.Spec PyProof.Rows L2 RZ DL LamX
open C8 (call_isC pe_gc InsC)
open M90
variable [TabC]
theorem eqDs_oD {xs ys : List (Option Nat)} : eqDs (xs.map oD) (ys.map oD) = decide (xs = ys) := by
  induction xs generalizing ys with
  | nil => cases ys <;> simp [eqDs]
  | cons x xs ih =>
    cases ys with
    | nil => simp [eqDs]
    | cons y ys => simp [eqDs, ih, eqD_oo]
theorem eqD_out {a b : List (Option Nat)} : eqD (outD a) (outD b) = decide (a = b) := by
  show eqD (.tup _) (.tup _) = _
  simp only [eqD, eqDs_oD]
theorem pl_outD {n : Nat} {o : List (Option Nat)} : pl (n + 1) (outD o) = true := by simp [outD]
theorem any_outs {L : List (List (Option Nat))} {o : List (Option Nat)} : ((L.map outD).any fun z => eqD z (outD o)) = decide (o ∈ L) := by
  rw [Bool.eq_iff_iff]
  simp [List.any_eq_true, eqD_out]
theorem fIn_outs {neg : Bool} {o : List (Option Nat)} {L : List (List (Option Nat))} {P : Dat → Prop} (h : P (.bl (neg != decide (o ∈ L)))) : fIn neg (outD o) (.lst (L.map outD)) P := by
  refine ⟨pl_outD, by simp [pl_outD], ?_⟩
  rw [any_outs]
  exact h
theorem memb_hld {o : List (Option Nat)} {r : Nat} (h : One o) : memb o r = (hld o r).toList := by
  have nd : (memb o r).Nodup := List.Pairwise.filter _ List.nodup_range
  cases q : hld o r with
  | none =>
    refine List.eq_nil_iff_forall_not_mem.mpr fun l hl => ?_
    have := (hld_iff h l r).mp (mem_memb.mp hl)
    rw [q] at this; cases this
  | some x =>
    have hx : ∀ l, l ∈ memb o r ↔ l = x := fun l => by
      rw [mem_memb, hld_iff h l r, q]
      constructor
      · intro e; cases e; rfl
      · rintro rfl; rfl
    cases e : memb o r with
    | nil => have := (hx x).mpr rfl; rw [e] at this; simp at this
    | cons a t =>
      have ha := (hx a).mp (by rw [e]; simp)
      subst ha
      cases t with
      | nil => rfl
      | cons b t =>
        have hb := (hx b).mp (by rw [e]; simp)
        rw [e, hb] at nd
        simp at nd
theorem or_best {e : Bool} {F : Dat → Prop} {G : (Dat → Prop) → Prop} (C : Dat → Prop) (h1 : e = true → C .non) (h2 : e = false → ∀ P : Dat → Prop, (∀ d, C d → P d) → G P) (h : ∀ d, C d → F d) : (e = false ∧ G F) ∨ (e = true ∧ F .non) := by
  cases e with
  | true => exact .inr ⟨rfl, h _ (h1 rfl)⟩
  | false => exact .inl ⟨rfl, h2 rfl F h⟩
theorem pl_rk {n : Nat} {r : List Nat} : pl (n + 1) (rk r) = true := by simp [rk]
theorem for_L {M : Nat} {T : TD} {G : GD} {Ts : TSD} {E : DE} {ε : Ev} (h : T ε fun d => sFor M (iL fun _ P => P d) G Ts E ε) : sFor M (iL T) G Ts E ε := h
theorem map_omap {α : Type} {f : α → Option Nat} {l : List α} : (l.filterMap fun v => (f v).map nD) = (l.filterMap f).map nD := by
  induction l with
  | nil => rfl
  | cons a l ih =>
    cases e : f a with
    | none => simp [e, ih]
    | some y => simp [e, ih]
/-- the place of a right in a pairing -/
theorem tix_out {v : List (Option Nat)} {r l : Nat} (h : One v) (e : oat v l = some r) : (v.map oD)[l]? = some (oD (some r)) ∧ ∀ m z, m < l → (v.map oD)[m]? = some z → eqD z (nD r) = false := by
  have hl := oat_some_lt e
  refine ⟨by rw [get_oat hl, e], fun m z hm hz => ?_⟩
  rw [get_oat (by omega)] at hz
  cases hz
  rw [eqD_on]
  simp
  intro q
  have := h l m r e q
  omega
/-- what is known of the places that help, behind some rankings -/
structure HelpI (B : List (List Nat)) (o w : List (Option Nat)) (r : Nat) (ks : List (List Nat)) (H : List Nat) : Prop where
  low : ∀ h ∈ H, ∃ w0, hld w r = some w0 ∧ ixo (row B r) w0 ≤ h
  non : lieO B o w r = none → H = []
  has : ∀ k ∈ ks, lieO B o w r = some k → ∃ w0, hld w r = some w0 ∧ ixo (row B r) w0 ∈ H
section
variable {A B : List (List Nat)} {o w o' : List (Option Nat)} {r : Nat} {k : List Nat} {ks : List (List Nat)} {H : List Nat}
theorem HelpI.no (hI : HelpI B o w r ks H) (h : lieO B o w r ≠ some k) : HelpI B o w r (ks ++ [k]) H := ⟨hI.low, hI.non, fun q hq e => by
  rcases List.mem_append.mp hq with z | z
  · exact hI.has q z e
  · rw [List.mem_singleton.mp z] at e
    exact (h e).elim⟩
theorem HelpI.yes {y : Nat} (hI : HelpI B o w r ks H) (h1 : ∃ w0, hld w r = some w0 ∧ ixo (row B r) w0 ≤ ixo (row B r) y) (h2 : lieO B o w r ≠ none) (h3 : lieO B o w r = some k → hld w r = some y) : HelpI B o w r (ks ++ [k]) (H ++ [ixo (row B r) y]) := ⟨fun h hh => by
  rcases List.mem_append.mp hh with z | z
  · exact hI.low h z
  · rw [List.mem_singleton.mp z]; exact h1, fun z => (h2 z).elim, fun q hq e => by
  rcases List.mem_append.mp hq with z | z
  · obtain ⟨w0, a, b⟩ := hI.has q z e
    exact ⟨w0, a, List.mem_append_left _ b⟩
  · rw [List.mem_singleton.mp z] at e
    exact ⟨y, h3 e, by simp⟩⟩
theorem lie_cases (hs : SidesOk A B) (hr : r < B.length) (so : Stb A B o) (sw : Stb A B w) (bw : WorstP (sPL A B) w) : (lieO B o w r = none ∧ hld o r = hld w r) ∨
    ∃ x w0, lieO B o w r = some ((row B r).take (ixo (row B r) w0 + 1)) ∧ hld o r = some x ∧ hld w r = some w0 ∧ x ∈ row B r ∧ w0 ∈ row B r ∧ ixo (row B r) w0 < ixo (row B r) x := by
  by_cases e : hld o r = hld w r
  · exact .inl ⟨by simp [lieO, e], e⟩
  · have rr := rural_r hs hr sw bw so
    cases q : hld w r with
    | none =>
      rw [q] at rr e
      exact absurd (by simpa using rr) e
    | some w0 =>
      rw [q] at rr
      obtain ⟨x, hx⟩ := Option.isSome_iff_exists.mp (show (hld o r).isSome = true by rw [rr]; rfl)
      obtain ⟨hxm, w1, hw1, le⟩ := best_of_all hs hr sw bw so hx
      rw [q] at hw1
      cases hw1
      have hw := (best_of_all hs hr sw bw sw q).1
      refine .inr ⟨x, w0, ?_, hx, rfl, hxm, hw, ?_⟩
      · unfold lieO
        rw [if_neg e, q]
        rfl
      · rcases Nat.lt_or_ge (ixo (row B r) w0) (ixo (row B r) x) with z | z
        · exact z
        · have := ixo_inj hw (Nat.le_antisymm le z)
          rw [hx, q, this] at e
          exact (e rfl).elim
theorem lie_helps (hs : SidesOk A B) (hr : r < B.length) (so : Stb A B o) (sw : Stb A B w) (bw : WorstP (sPL A B) w) (so' : Stb A (B.set r k) o') (h : lieO B o w r = some k) : hld o' r = hld w r ∧ hlpB (row B r) (hld o r) (hld o' r) = true := by
  rcases lie_cases hs hr so sw bw with ⟨e, _⟩ | ⟨x, w0, e, hx, hw, hxm, hwm, lt⟩
  · rw [e] at h; cases h
  · rw [e] at h
    cases h
    have := cut_lie hs hr sw bw hw so'
    rw [this, hw, hx]
    exact ⟨rfl, by simp [hlpB, hwm, lt]⟩
theorem no_help (hs : SidesOk A B) (hr : r < B.length) (so : Stb A B o) (sw : Stb A B w) (bw : WorstP (sPL A B) w) (hk : RkOk A.length k) (so' : Stb A (B.set r k) o') {y : Nat} (hy : hld o' r = some y) (hm : y ∈ row B r) (h : hlpB (row B r) (hld o r) (some y) = true) :
    (∃ w0, hld w r = some w0 ∧ ixo (row B r) w0 ≤ ixo (row B r) y) ∧ lieO B o w r ≠ none := by
  obtain ⟨w0, hw, le⟩ := no_gain_r hs hr hk sw bw so' hy hm
  refine ⟨⟨w0, hw, le⟩, fun z => ?_⟩
  rcases lie_cases hs hr so sw bw with ⟨_, e⟩ | ⟨x, w0, e, _⟩
  · rw [e, hw] at h
    simp [hlpB] at h
    omega
  · rw [e] at z; cases z
end
def S__law_lies_right : List Dat → (Dat → Prop) → Prop := fun ds P => ∃ b : Bool, ds = [.cell, .bl b] ∧ P (.bl true)
theorem len__law_lies_right (ds : List Dat) (Q : Dat → Prop) (h : S__law_lies_right ds Q) : ds.length = P__law_lies_right.length := by
  obtain ⟨b, rfl, _⟩ := h; rfl
section
variable {P : Program} {w : World} {K : PySem.W.Frag} {mg : Str → Option Value} {base : Heap}
theorem ok__law_lies_right (g : Fx K mg base) : FnOk P w K mg base L2.CX0 9 g.f__law_lies_right g.fd__law_lies_right P__law_lies_right (spF 1000000 S__law_lies_right) := by
  refine okD g.F__law_lies_right sc__law_lies_right len__law_lies_right (fun cdv A outer s H E hr => ?_)
  have nd := (sc__law_lies_right).nd
  refine ⟨_, SDs.cost (sds_cons (sd_par (i := 2) (j := 3) (pmd_cons (m := .rep) (pd_op op_addA od_add (pd_int).toSh ((pd_call (ok__law_take g) (hr.mono (by decide)) (by rfl) g.g__law_take g.F__law_take.kp (b__law_take g) (pad_cons (pd_var (pv 0)) (pad_cons pd_int pad_nil)))).toSh) (pmd_cons (m := .rep) (pd_op op_addA od_add (pd_int).toSh ((pd_call (ok__law_take g) (hr.mono (by decide)) (by rfl) g.g__law_take g.F__law_take.kp (b__law_take g) (pad_cons (pd_var (pv 0)) (pad_cons pd_int pad_nil)))).toSh) pmd_nil)) rfl rfl nd rfl rfl (by decide) rfl rfl (by rfl)) (sds_cons (sd_par (i := 4) (j := 5) (pmd_cons (m := .rep) (pd_call (ok__law_rankings g) (hr.mono (by decide)) (by rfl) g.g__law_rankings g.F__law_rankings.kp (b__law_rankings g) (pad_cons (pd_var (pv 0)) (pad_cons (pd_var (pv 2)) (pad_cons (pd_var (pv 3)) (pad_cons (pd_cmp (op_eqD (ru0 hr)) od_eq ((pd_call (ok__law_take g) (hr.mono (by decide)) (by rfl) g.g__law_take g.F__law_take.kp (b__law_take g) (pad_cons (pd_var (pv 0)) (pad_cons pd_int pad_nil)))).toSh (pd_int).toSh (nomark _)) pad_nil))))) (pmd_cons (m := .rep) (pd_call (ok__law_rankings g) (hr.mono (by decide)) (by rfl) g.g__law_rankings g.F__law_rankings.kp (b__law_rankings g) (pad_cons (pd_var (pv 0)) (pad_cons (pd_var (pv 3)) (pad_cons (pd_var (pv 2)) (pad_cons (pd_cmp (op_eqD (ru0 hr)) od_eq ((pd_call (ok__law_take g) (hr.mono (by decide)) (by rfl) g.g__law_take g.F__law_take.kp (b__law_take g) (pad_cons (pd_var (pv 0)) (pad_cons pd_int pad_nil)))).toSh (pd_int).toSh (nomark _)) pad_nil))))) pmd_nil)) rfl rfl nd rfl rfl (by decide) rfl rfl (by rfl)) (sds_cons (sd_mul (xN := 0) (is := [6, 7]) (pmd_cons (m := .rep) (pd_make g.M_Sides (okI_Sides g) (hr.mono (by decide)) (by rfl) g.g_Sides (bI_Sides g) (pad_cons (pd_var (pv 4)) (pad_cons (pd_var (pv 5)) pad_nil))) (pmd_cons (m := .rep) (pd_call (ok__law_take g) (hr.mono (by decide)) (by rfl) g.g__law_take g.F__law_take.kp (b__law_take g) (pad_cons (pd_var (pv 0)) (pad_cons (pd_var (pv 3)) pad_nil))) pmd_nil)) rfl rfl rfl (pgs_cons (pg_name (i := 6) nd rfl (.inl rfl)) (pgs_cons (pg_name (i := 7) nd rfl (.inr rfl)) pgs_nil))) (sds_cons (sd_mul (xN := 0) (is := [8, 9]) (pmd_cons (m := .rep) (pd_call (ok__law_all_stable g) (hr.mono (by decide)) (by rfl) g.g__law_all_stable g.F__law_all_stable.kp (b__law_all_stable g) (pad_cons (pd_var (pv 4)) (pad_cons (pd_var (pv 5)) pad_nil))) (pmd_cons (m := .rep) (pd_ix (ix_all (ru1 hr)) od_ix ((pd_var (pv 5))).toSh ((pd_var (pv 7))).toSh (fun _ _ => rfl)) pmd_nil)) rfl rfl rfl (pgs_cons (pg_name (i := 8) nd rfl (.inl rfl)) (pgs_cons (pg_name (i := 9) nd rfl (.inr rfl)) pgs_nil))) (sds_cons (sd_asg (i := 10) (pd_call (ok__law_row g) (hr.mono (by decide)) (by rfl) g.g__law_row g.F__law_row.kp (b__law_row g) (pad_cons (pd_call (ok_best_for_lefts g) (hr.mono (by decide)) (by rfl) g.g_best_for_lefts g.F_best_for_lefts.kp (b_best_for_lefts g) (pad_cons (pd_var (pv 6)) pad_nil)) (pad_cons (pd_var (pv 2)) pad_nil))) nd rfl (.inr rfl)) (sds_cons (sd_if ((pwd_or (ptd_cmp (op_notinA (ru hr)) od_notin ((pd_var (pv 10))).toSh ((pd_var (pv 8))).toSh (by with_unfolding_all rfl)) (pwd_or1 (ptd_cmp (op_notinA (ru hr)) od_notin ((pd_call (ok__law_row g) (hr.mono (by decide)) (by rfl) g.g__law_row g.F__law_row.kp (b__law_row g) (pad_cons (pd_call (ok_best_for_rights g) (hr.mono (by decide)) (by rfl) g.g_best_for_rights g.F_best_for_rights.kp (b_best_for_rights g) (pad_cons (pd_var (pv 6)) pad_nil)) (pad_cons (pd_var (pv 2)) pad_nil)))).toSh ((pd_var (pv 8))).toSh (by with_unfolding_all rfl))))).pt (sds_cons (sd_ret pd_bl) sds_nil) sds_nil) (sds_cons (sd_setLc (i := 11) 1024 rfl nd rfl rfl (by rfl) (pid_range1 (by rfl) g.b_range (pad_cons (pd_var (pv 2)) pad_nil)) (blkOk_by (own := [("left", 20)]) (by kernel_rfl)) (fun _ _ _ _ _ => (pgd_name (i := 20) nd rfl (by first | exact .inl rfl | exact .inr rfl))) (fun _ _ _ _ _ => (ptsd_one (ptd_cmp (op_eqD (ru0 hr)) od_eq ((pd_ix (ix_all (ru1 hr)) od_ix ((pd_var (pv 10))).toSh ((pd_var (pv 20))).toSh (fun _ _ => rfl))).toSh ((pd_var (pv 7))).toSh (nomark _)))) (fun _ _ _ _ _ => (pd_var (pv 20)))) (sds_cons (((sd_asg (i := 12) (pd_if (ptd_cmp (op_neD (ru0 hr)) od_ne ((pd_var (pv 11))).toSh ((pd_lst pad_nil)).toSh (nomark _)) (pd_callB (call_minA rfl) cd_min (by rfl) g.b_min boot_min (phd_cons ((pd_lc 1024 rfl nd (pid_list (pd_var (pv 8))) (blkOk_by (own := [("row", 21)]) (by kernel_rfl)) (fun _ _ _ _ _ => (pgd_name (i := 21) nd rfl (by first | exact .inl rfl | exact .inr rfl))) (fun _ _ _ _ _ => (ptsd_one (ptd_cmp (op_inA (ru hr)) od_in ((pd_var (pv 7))).toSh ((pd_var (pv 21))).toSh (by with_unfolding_all rfl)))) (fun _ _ _ _ _ => (pd_tindex (pd_var (pv 9)) (pd_tindex (pd_var (pv 21)) (pd_var (pv 7))))))).toSh phd_nil)) pd_non) nd rfl (.inl rfl))).frz 11) (sds_cons (sd_asg (i := 13) (pd_if (ptd_val (pd_var (pv 1))) (pd_callK0 (ok_lie_for g) (hr.mono (by decide)) (by rfl) g.g_lie_for g.F_lie_for.kp (kb_lie_for_1_0 g) (pkd_cons (pd_var (pv 7)) (pkd_cons (pd_var (pv 6)) pkd_nil))) (pd_call (ok_lie_for g) (hr.mono (by decide)) (by rfl) g.g_lie_for g.F_lie_for.kp (b_lie_for g) (pad_cons (pd_var (pv 6)) (pad_cons (pd_var (pv 7)) pad_nil)))) nd rfl (.inr rfl)) (sds_cons (sd_asg (i := 14) ((pd_lst pad_nil)).frz nd rfl (.inl rfl)) (sds_cons (sd_for 1024 PassesOwn.never rfl (pid_list (pd_call (ok__law_all_rankings g) (hr.mono (by decide)) (by rfl) g.g__law_all_rankings g.F__law_all_rankings.kp (b__law_all_rankings g) (pad_cons (pd_var (pv 2)) pad_nil))) (pgd_name (i := 15) nd rfl (.inl rfl)) (sds_cons (sd_asg (i := 16) (pd_call (ok__law_row g) (hr.mono (by decide)) (by rfl) g.g__law_row g.F__law_row.kp (b__law_row g) (pad_cons (pd_call (ok_best_for_lefts g) (hr.mono (by decide)) (by rfl) g.g_best_for_lefts g.F_best_for_lefts.kp (b_best_for_lefts g) (pad_cons (pd_make g.M_Sides (okI_Sides g) (hr.mono (by decide)) (by rfl) g.g_Sides (bI_Sides g) (pad_cons (pd_var (pv 4)) (pad_cons (pd_op op_addA od_add ((pd_op op_addA od_add ((pd_slice ((pd_var (pv 5))).toSh pod_none (pod_some (pd_var (pv 7))))).toSh ((pd_tup (pad_cons (pd_var (pv 15)) pad_nil))).toSh)).toSh ((pd_slice ((pd_var (pv 5))).toSh (pod_some (pd_op op_addA od_add ((pd_var (pv 7))).toSh (pd_int).toSh)) pod_none)).toSh) pad_nil))) pad_nil)) (pad_cons (pd_var (pv 2)) pad_nil))) nd rfl (.inr rfl)) (sds_cons (sd_setLc (i := 17) 1024 rfl nd rfl rfl (by rfl) (pid_range1 (by rfl) g.b_range (pad_cons (pd_var (pv 2)) pad_nil)) (blkOk_by (own := [("left", 20)]) (by kernel_rfl)) (fun _ _ _ _ _ => (pgd_name (i := 20) nd rfl (by first | exact .inl rfl | exact .inr rfl))) (fun _ _ _ _ _ => (ptsd_one (ptd_cmp (op_eqD (ru0 hr)) od_eq ((pd_ix (ix_all (ru1 hr)) od_ix ((pd_var (pv 16))).toSh ((pd_var (pv 20))).toSh (fun _ _ => rfl))).toSh ((pd_var (pv 7))).toSh (nomark _)))) (fun _ _ _ _ _ => (pd_var (pv 20)))) (sds_cons (((sd_asg (i := 18) (pd_and (pd_cmp (op_neD (ru0 hr)) od_ne ((pd_var (pv 17))).toSh ((pd_lst pad_nil)).toSh (nomark _)) (pd_and (pd_cmp (op_inA (ru hr)) od_in ((pd_ix (ix_all (ru1 hr)) od_ix ((pd_var (pv 17))).toSh (pd_int).toSh (fun _ _ => rfl))).toSh ((pd_var (pv 9))).toSh (by with_unfolding_all rfl)) (pd_one (pd_or (pd_cmp (op_eqD (ru0 hr)) od_eq ((pd_var (pv 11))).toSh ((pd_lst pad_nil)).toSh (nomark _)) (pd_one (pd_cmp op_lt od_C ((pd_tindex (pd_var (pv 9)) (pd_ix (ix_all (ru1 hr)) od_ix ((pd_var (pv 17))).toSh (pd_int).toSh (fun _ _ => rfl)))).toSh ((pd_tindex (pd_var (pv 9)) (pd_ix (ix_all (ru1 hr)) od_ix ((pd_var (pv 11))).toSh (pd_int).toSh (fun _ _ => rfl)))).toSh (nomark _))))))) nd rfl (.inl rfl))).frz 17) (sds_cons (sd_asg (i := 14) (pd_op op_addA od_add ((pd_var (pv 14))).toSh ((pd_if (ptd_val (pd_var (pv 18))) (pd_lst (pad_cons (pd_tindex (pd_var (pv 9)) (pd_ix (ix_all (ru1 hr)) od_ix ((pd_var (pv 17))).toSh (pd_int).toSh (fun _ _ => rfl))) pad_nil)) (pd_lst pad_nil))).toSh) nd rfl (.inl rfl)) (sds_cons (sd_asg (i := 19) (pd_call (ok_is_lie_for g) (hr.mono (by decide)) (by rfl) g.g_is_lie_for g.F_is_lie_for.kp (b_is_lie_for g) (pad_cons (pd_var (pv 6)) (pad_cons (pd_var (pv 7)) (pad_cons (pd_var (pv 15)) pad_nil)))) nd rfl (.inl rfl)) (sds_cons (sd_if ((pwd_or (ptd_not (ptd_val (pd_callB call_isi cd_isi (by rfl) g.b_isinstance boot_isinstance (phd_cons ((pd_var (pv 19))).toSh (phd_cons ((pd_ty (pe_bltn (by rfl) g.b_bool boot_bool rfl))).toSh phd_nil))))) (pwd_or (ptd_cmp (op_neD (ru0 hr)) od_ne ((pd_var (pv 19))).toSh ((pd_var (pv 18))).toSh (nomark _)) (pwd_or1 ((pwd_and (ptd_val (pd_call (ok__law_same g) (hr.mono (by decide)) (by rfl) g.g__law_same g.F__law_same.kp (b__law_same g) (pad_cons (pd_var (pv 13)) (pad_cons (pd_var (pv 15)) pad_nil)))) (pwd_and1 (ptd_not (ptd_val (pd_var (pv 18))))))).pt)))).pt (sds_cons (sd_ret pd_bl) sds_nil) sds_nil) sds_nil))))))) (sds_cons (sd_if ((pwd_and (ptd_cmp op_isnA od_isn ((pd_var (pv 13))).toSh (pd_non).toSh (nomark _)) (pwd_and1 (ptd_cmp (op_eqD (ru0 hr)) od_eq ((pd_lc 1024 rfl nd (pid_list (pd_call (ok__law_all_rankings g) (hr.mono (by decide)) (by rfl) g.g__law_all_rankings g.F__law_all_rankings.kp (b__law_all_rankings g) (pad_cons (pd_var (pv 2)) pad_nil))) (blkOk_by (own := [("ranking", 15)]) (by kernel_rfl)) (fun _ _ _ _ _ => (pgd_name (i := 15) nd rfl (by first | exact .inl rfl | exact .inr rfl))) (fun _ _ _ _ _ => (ptsd_one (ptd_val (pd_call (ok__law_same g) (hr.mono (by decide)) (by rfl) g.g__law_same g.F__law_same.kp (b__law_same g) (pad_cons (pd_var (pv 13)) (pad_cons (pd_var (pv 15)) pad_nil)))))) (fun _ _ _ _ _ => (pd_var (pv 15))))).toSh ((pd_lst pad_nil)).toSh (nomark _))))).pt (sds_cons (sd_ret pd_bl) sds_nil) sds_nil) (sds_cons (sd_if ((pwd_or (ptd_cmp (op_neD (ru0 hr)) od_ne ((pd_cmp op_isA od_is ((pd_var (pv 13))).toSh (pd_non).toSh (nomark _))).toSh ((pd_cmp (op_eqD (ru0 hr)) od_eq ((pd_var (pv 14))).toSh ((pd_lst pad_nil)).toSh (nomark _))).toSh (nomark _)) (pwd_or1 ((pwd_and (ptd_cmp (op_neD (ru0 hr)) od_ne ((pd_var (pv 11))).toSh ((pd_lst pad_nil)).toSh (nomark _)) (pwd_and1 (ptd_cmp (op_neD (ru0 hr)) od_ne ((pd_cmp (op_neD (ru0 hr)) od_ne ((pd_var (pv 14))).toSh ((pd_lst pad_nil)).toSh (nomark _))).toSh ((pd_cmp op_lt od_C ((pd_var (pv 12))).toSh ((pd_tindex (pd_var (pv 9)) (pd_ix (ix_all (ru1 hr)) od_ix ((pd_var (pv 11))).toSh (pd_int).toSh (fun _ _ => rfl)))).toSh (nomark _))).toSh (nomark _))))).pt))).pt (sds_cons (sd_ret pd_bl) sds_nil) sds_nil) (sds_cons (sd_ret (pd_or (pd_cmp (op_eqD (ru0 hr)) od_eq ((pd_var (pv 14))).toSh ((pd_lst pad_nil)).toSh (nomark _)) (pd_one (pd_cmp (op_eqD (ru0 hr)) od_eq ((pd_callB (call_minA rfl) cd_min (by rfl) g.b_min boot_min (phd_cons ((pd_var (pv 14))).toSh phd_nil))).toSh ((pd_var (pv 12))).toSh (nomark _))))) sds_nil)))))))))))))) (by decide), fun ds Q h => ?_⟩
  obtain ⟨named, rfl, hQ⟩ := h
  simp
  refine take_in 4 rfl (by decide) (by decide) fun a ha => add_in (j := 1) rfl (take_in 3 rfl (by decide) (by decide) fun b hb => add_in (j := 1) rfl (take_in 2 rfl (by decide) (by decide) fun c hc => ⟨by simp, ?_⟩))
  have hn : 1 + a ≤ 4 := by omega
  have hn1 : 1 ≤ 1 + a := by omega
  have hm : 1 + b ≤ 3 := by omega
  have hm1 : 1 ≤ 1 + b := by omega
  generalize 1 + a = n at *
  generalize 1 + b = m at *
  refine ⟨n, m, _, rfl, by omega, by omega, by omega, fun A hA => take_in 2 rfl (by decide) (by decide) fun c' hc' => ⟨by simp, ?_⟩⟩
  refine ⟨m, n, _, rfl, by omega, by omega, by omega, fun B hB => ?_⟩
  have hs := drawn_sides hA hB ⟨hn1, by omega⟩ ⟨hm1, by omega⟩
  have eA : A.length = n := hA.1
  have eB : B.length = m := hB.1
  subst eA eB
  refine ⟨A, B, rfl, hs, B.length, rfl, by omega, by omega, fun r hr => ⟨A, B, rfl, hs, hn, hm, fun L hL hLl => Eq.mpr (fIx_rks hr) ?_⟩⟩
  refine ⟨A, B, rfl, hs, fun o io no bo => ?_⟩
  have so : Stb A B o := ⟨io, no⟩
  have ho : o.length = A.length := by have := io.len; simpa [sPL] using this
  refine ⟨o, by rw [ho], by omega, fIn_outs ?_⟩
  refine .inl ⟨by simp [(hL o).mpr so], ?_⟩
  refine ⟨A, B, rfl, hs, fun w iw nw bw => ?_⟩
  have sw : Stb A B w := ⟨iw, nw⟩
  have hw : w.length = A.length := by have := iw.len; simpa [sPL] using this
  refine ⟨w, by rw [hw], by omega, fIn_outs ?_⟩
  refine .inl ⟨by simp [(hL w).mpr sw], ?_⟩
  refine lc_rN (n := A.length) (fun l => if decide (oat o l = some r) = true then some (nD l) else none) (fun P h => by simpa [nD] using h) (by omega) (by omega) (fun l hl R hR => ?_) ?_
  · simp
    refine Eq.mpr (fIx_out (by omega)) ⟨pl_oD, ?_⟩
    rw [eqD_on]
    by_cases e : oat o l = some r
    · exact .inr ⟨by simp [e], by simpa [e] using hR⟩
    · exact .inl ⟨by simp [e], by simpa [e] using hR⟩
  rw [fm_if, show (List.range A.length).filter (fun l => decide (oat o l = some r)) = memb o r by unfold memb; rw [ho], memb_hld (stb_one hs so)]
  have hown := hs.2.1.2.2 _ (row_mem hr)
  refine ⟨by simp, ?_⟩
  rw [eqD_lnil]
  refine Or.comm.mp ?_
  refine or_best (G := fun P => dLc _ _ _ _ _ _ _ (fun d => fMin [d] P)) (fun d => (hld o r = none ∧ d = .non) ∨ ∃ x w0, hld o r = some x ∧ hld w r = some w0 ∧ d = nD (ixo (row B r) w0)) (fun h => ?_) (fun h P hP => ?_) (fun bd hbd => ?_)
  · cases q : hld o r with
    | none => exact .inl ⟨rfl, rfl⟩
    | some x => rw [q] at h; simp at h
  · obtain ⟨x, hx⟩ : ∃ x, hld o r = some x := by
      cases q : hld o r with
      | none => rw [q] at h; simp at h
      | some x => exact ⟨x, rfl⟩
    obtain ⟨_, w0, hw0, _⟩ := best_of_all hs hr sw bw so hx
    have hL2 : L.length ≤ 256 := hLl
    refine lc_lst L outD (fun v => ((hld v r).map (ixo (row B r))).map nD) (fun P h => by simpa using h) (by omega) (fun v hv R hR => ?_) ?_
    · have sv := (hL v).mp hv
      simp
      refine fIn_out ?_
      cases q : hld v r with
      | none =>
        rw [q] at hR
        refine .inl ⟨?_, hR⟩
        have : ¬ some r ∈ v := fun hm => by
          obtain ⟨l, hl⟩ := mem_oat_iff.mp hm
          rw [(hld_iff (stb_one hs sv) l r).mp hl] at q
          cases q
        simp [this]
      | some y =>
        rw [q] at hR
        have hy := (hld_iff (stb_one hs sv) y r).mpr q
        have hyo : y ∈ row B r := (stb_at hs sv y r hy).2.2.1
        have hm : some r ∈ v := mem_oat_iff.mpr ⟨y, hy⟩
        have e1 : ∀ z : Dat, eqD z (Dat.int (y : Int)) = eqD z (nD y) := fun z => rfl
        refine .inr ⟨by simp [hm], _, rfl, _, rfl, by simp, y, oD (some r), (tix_out (stb_one hs sv) hy).1, by simp [oD], (tix_out (stb_one hs sv) hy).2, rfl, by simp, ixo (row B r) y, nD y, (dTIx_at hyo).1, by rw [e1]; simp, fun m z h1 h2 => (dTIx_at hyo).2 m z h1 h2, hR⟩
    · rw [map_omap]
      refine ⟨_, intsD_nD, ?_, fun m hm1 hm2 => ?_⟩
      · have : ixo (row B r) w0 ∈ L.filterMap fun v => (hld v r).map (ixo (row B r)) := List.mem_filterMap.mpr ⟨w, (hL w).mpr sw, by rw [hw0]; rfl⟩
        rw [List.length_map]
        exact List.length_pos_of_mem this
      · refine hP _ (.inr ⟨x, w0, hx, hw0, ?_⟩)
        obtain ⟨k, hk, rfl⟩ := List.mem_map.mp hm1
        obtain ⟨v, hv, e⟩ := List.mem_filterMap.mp hk
        have h9 := hm2 _ (List.mem_map.mpr ⟨ixo (row B r) w0, List.mem_filterMap.mpr ⟨w, (hL w).mpr sw, by rw [hw0]; rfl⟩, rfl⟩)
        cases q : hld v r with
        | none => rw [q] at e; cases e
        | some y =>
          rw [q] at e
          cases e
          obtain ⟨_, w1, hw1, le⟩ := best_of_all hs hr sw bw ((hL v).mp hv) q
          rw [hw0] at hw1
          cases hw1
          unfold nD
          congr 1
          omega
  · refine ⟨A, B, r, rfl, hs, hr, fun o2 w2 so2 bo2 sw2 bw2 => ?_⟩
    rw [best_uniq hs so2 so bo2 bo, worst_uniq hs sw2 sw bw2 bw]
    refine for_L ⟨_, rfl, A.length, rfl, hn, fun Lr hLr hLrl => ?_⟩
    refine for_mapL Lr rk (fun P h => h) (by omega) (fun i ε => ∃ (H : List Nat) (x15 x16 x17 x18 x19 x20 x21 : Sl), ε = [Sl.val Dat.cell, Sl.val (Dat.bl named), Sl.val (nD A.length), Sl.val (nD B.length), Sl.val (rks A), Sl.val (rks B), Sl.val (Dat.obj g.C_Sides (fsS A B)), Sl.val (nD r), Sl.val (Dat.lst (List.map outD L)), Sl.val (rk (row B r)), Sl.val (outD o), Sl.val (Dat.lst (List.map nD (hld o r).toList)), Sl.val bd, Sl.val (orD (lieO B o w r)), Sl.val (Dat.lst (H.map nD)), x15, x16, x17, x18, x19, x20, x21] ∧
      HelpI B o w r (Lr.take i) H ∧ H.length ≤ i) ⟨[], _, _, _, _, _, _, _, rfl, ⟨by simp, by simp, by simp⟩, by simp⟩ (fun i k ε hk ⟨H, x15, x16, x17, x18, x19, x20, x21, hε, hI, hHl⟩ => ?_) (fun ε ⟨H, x15, x16, x17, x18, x19, x20, x21, hε, hI, hHl⟩ => ?_)
    · subst hε
      have hkm := (hLr k).mp (List.mem_of_getElem? hk)
      have hkr : RkOk A.length k := ⟨hkm.1, hkm.2, by omega⟩
      have hsl := lie_sides (r := r) hs hkr
      simp
      have eB2 : ∀ P : Dat → Prop, P (rks (B.set r k)) → fSl (rks B) none (some (r : Int)) fun d => fAdd d (Dat.tup [rk k]) fun d => fAdd (nD r) (Dat.int 1) fun d_1 => ∃ i_1, d_1 = Dat.int i_1 ∧ fSl (rks B) (some i_1) none fun e => fAdd d e P := fun P h => by
        have sl : ∀ (lo hi : Option Int) (R : Dat → Prop), fSl (rks B) lo hi R = R (.tup (cut (B.map rk) lo hi)) := fun _ _ _ => rfl
        rw [sl, cutT]
        refine ⟨by simp; omega, _, rfl, ?_⟩
        have e1 : ((r : Int) + 1) = ((r + 1 : Nat) : Int) := by omega
        rw [e1]
        rw [sl, cutD]
        refine ⟨by simp; omega, ?_⟩
        have e2 : (B.map rk).take r ++ [rk k] ++ (B.map rk).drop (r + 1) = (B.set r k).map rk := by
          rw [← rks_set hr]; simp
        rw [e2]
        exact h
      refine eB2 _ ⟨A, B.set r k, rfl, hsl, ?_⟩
      refine ⟨A, B.set r k, rfl, hsl, fun o' io' no' bo' => ?_⟩
      have so' : Stb A (B.set r k) o' := ⟨io', no'⟩
      have ho' : o'.length = A.length := by have := io'.len; simpa [sPL] using this
      have h1 := stb_one hsl so'
      refine ⟨o', by rw [ho'], by omega, ?_⟩
      refine lc_rN (n := A.length) (fun l => if decide (oat o' l = some r) = true then some (nD l) else none) (fun P h => by simpa [nD] using h) (by omega) (by omega) (fun l hl R hR => ?_) ?_
      · simp
        refine Eq.mpr (fIx_out (by omega)) ⟨pl_oD, ?_⟩
        rw [eqD_on]
        by_cases e : oat o' l = some r
        · exact .inr ⟨by simp [e], by simpa [e] using hR⟩
        · exact .inl ⟨by simp [e], by simpa [e] using hR⟩
      rw [fm_if, show (List.range A.length).filter (fun l => decide (oat o' l = some r)) = memb o' r by unfold memb; rw [ho'], memb_hld h1]
      have htk : Lr.take (i + 1) = Lr.take i ++ [k] := by rw [List.take_add_one, hk]; rfl
      have jud : ∀ R : Dat → Prop, R (.bl (hlpB (row B r) (hld o r) (hld o' r))) → S_is_lie_for g.C_Sides [Dat.obj g.C_Sides (fsS A B), nD r, rk k] R := fun R h =>
        ⟨A, B, r, k, rfl, hs, hr, hkr, fun o1 o2 s1 b1 s2 b2 => by rw [best_uniq hs s1 so b1 bo, best_uniq hsl s2 so' b2 bo']; exact h⟩
      have same : ∀ R : Dat → Prop, R (.bl (decide (lieO B o w r = some k))) → S_same 5 [orD (lieO B o w r), rk k] R := fun R h => .inr (.inr (.inr ⟨by decide, _, _, rfl, by have := nd_len hkm.1 hkm.2; omega, h⟩))
      have lh := lie_helps hs hr so sw bw so'
      have nh := fun y => no_help hs hr so sw bw hkr so' (y := y)
      refine ⟨by simp, ?_⟩
      have hil := (List.getElem?_eq_some_iff.mp hk).1
      have at0y : ∀ y : Nat, atI [nD y] 0 = some (nD y) := fun y => show atI [nD y] ((0 : Nat) : Int) = _ from atI_nat rfl
      cases q' : hld o' r with
      | none =>
        rw [q'] at jud lh
        have nl : lieO B o w r ≠ some k := fun z => by simpa [hlpB] using (lh z).2
        simp [eqD_lnil]
        refine ⟨by omega, jud _ ?_⟩
        simp [hlpB]
        exact .inl ⟨rfl, same _ (.inl ⟨by simp [nl], H, rfl, by rw [htk]; exact hI.no nl, by omega⟩)⟩
      | some y =>
        rw [q'] at jud lh
        have nh := nh y q'
        by_cases hy : y ∈ row B r
        · simp [eqD_lnil, hy]
          refine ⟨nD y, at0y y, Eq.mpr (fIn_rk (neg := false) (r := row B r) (a := y)) (.inr ⟨by simp [hy], ?_⟩)⟩
          cases q : hld o r with
          | none =>
            rw [q] at jud nh
            obtain ⟨g1, g2⟩ := nh hy (by simp [hlpB, hy])
            refine .inr ⟨rfl, _, rfl, nD y, at0y y, by simp, by simp, ixo (row B r) y, nD y, (dTIx_at hy).1, by simp, (dTIx_at hy).2, by omega, jud _ ?_⟩
            simp [hlpB, hy]
            have nx : ∃ H_1 : List Nat, List.map nD H ++ [Dat.int ((ixo (row B r) y : Nat) : Int)] = List.map nD H_1 ∧ HelpI B o w r (List.take (i + 1) Lr) H_1 ∧ H_1.length ≤ i + 1 := ⟨H ++ [ixo (row B r) y], by simp [nD], by rw [htk]; exact hI.yes g1 g2 fun z => (lh z).1.symm, by simp; omega⟩
            refine .inl ⟨rfl, same _ ?_⟩
            by_cases z : lieO B o w r = some k
            · exact .inr ⟨by simp [z], nx⟩
            · exact .inl ⟨by simp [z], nx⟩
          | some x =>
            rw [q] at jud nh
            have hx : x ∈ row B r := (best_of_all hs hr sw bw so q).1
            refine .inl ⟨by simp, _, rfl, nD y, at0y y, by simp, by simp, ixo (row B r) y, nD y, (dTIx_at hy).1, by simp, (dTIx_at hy).2, _, rfl, nD x, at0y x, by simp, by simp, ixo (row B r) x, nD x, (dTIx_at hx).1, by simp, (dTIx_at hx).2, ?_⟩
            by_cases lt : ixo (row B r) y < ixo (row B r) x
            · obtain ⟨g1, g2⟩ := nh hy (by simp [hlpB, hy, lt])
              refine .inr ⟨lt, _, rfl, nD y, at0y y, by simp, by simp, ixo (row B r) y, nD y, (dTIx_at hy).1, by simp, (dTIx_at hy).2, by omega, jud _ ?_⟩
              simp [hlpB, hy, lt]
              have nx : ∃ H_1 : List Nat, List.map nD H ++ [Dat.int ((ixo (row B r) y : Nat) : Int)] = List.map nD H_1 ∧ HelpI B o w r (List.take (i + 1) Lr) H_1 ∧ H_1.length ≤ i + 1 := ⟨H ++ [ixo (row B r) y], by simp [nD], by rw [htk]; exact hI.yes g1 g2 fun z => (lh z).1.symm, by simp; omega⟩
              refine .inl ⟨rfl, same _ ?_⟩
              by_cases z : lieO B o w r = some k
              · exact .inr ⟨by simp [z], .inr nx⟩
              · exact .inl ⟨by simp [z], nx⟩
            · have nl : lieO B o w r ≠ some k := fun z => by
                have := (lh z).2
                rw [q] at this
                simp [hlpB, hy, lt] at this
              refine .inl ⟨by omega, by omega, jud _ ?_⟩
              simp [hlpB, hy, lt]
              exact .inl ⟨rfl, same _ (.inl ⟨by simp [nl], H, rfl, by rw [htk]; exact hI.no nl, by omega⟩)⟩
        · have nl : lieO B o w r ≠ some k := fun z => by simpa [hlpB, hy] using (lh z).2
          simp [eqD_lnil, hy]
          refine ⟨nD y, at0y y, Eq.mpr (fIn_rk (neg := false) (r := row B r) (a := y)) (.inl ⟨by simp [hy], by omega, jud _ ?_⟩)⟩
          simp [hlpB, hy]
          exact .inl ⟨rfl, same _ (.inl ⟨by simp [nl], H, rfl, by rw [htk]; exact hI.no nl, by omega⟩)⟩
    · subst hε
      rw [List.take_length] at hI
      have at0y : ∀ y : Nat, atI [nD y] 0 = some (nD y) := fun y => show atI [nD y] ((0 : Nat) : Int) = _ from atI_nat rfl
      rcases lie_cases hs hr so sw bw with ⟨e, eq⟩ | ⟨x, w0, e, hx, hw2, hxm, hwm, lt⟩
      · rw [hI.non e, e]
        cases q : hld o r with
        | none =>
          simp [orD, eqD_lnil]
          exact .inl ⟨rfl, .inl ⟨rfl, hQ⟩⟩
        | some x =>
          simp [orD, eqD_lnil]
          have hx : x ∈ row B r := (best_of_all hs hr sw bw so q).1
          have hb : bd = nD (ixo (row B r) x) := by
            rcases hbd with ⟨h, _⟩ | ⟨x', w0, h1, h2, h3⟩
            · rw [q] at h; cases h
            · rw [q] at eq
              rw [← eq] at h2
              cases h2
              exact h3
          refine .inl ⟨rfl, .inl ⟨rfl, _, rfl, nD x, at0y x, by simp, by simp, ixo (row B r) x, nD x, (dTIx_at hx).1, by simp, (dTIx_at hx).2, ?_⟩⟩
          rw [hb]
          simp only [oC_ni]
          rw [decide_eq_false (show ¬ (((ixo (row B r) x : Nat) : Int) < ((ixo (row B r) x : Nat) : Int)) by omega)]
          exact ⟨by simp, .inl ⟨rfl, hQ⟩⟩
      · have hb : bd = nD (ixo (row B r) w0) := by
          rcases hbd with ⟨h, _⟩ | ⟨x', w1, h1, h2, h3⟩
          · rw [hx] at h; cases h
          · rw [hw2] at h2
            cases h2
            exact h3
        have hk0 : (row B r).take (ixo (row B r) w0 + 1) ∈ Lr := (hLr _).mpr ⟨hown.1.sublist (List.take_sublist _ _), fun y hy => hown.2.1 y (List.mem_of_mem_take hy)⟩
        obtain ⟨w1, hw1, hwH⟩ := hI.has _ hk0 e
        rw [hw2] at hw1
        cases hw1
        have hH : H ≠ [] := fun z => by rw [z] at hwH; simp at hwH
        rw [hx, e]
        simp [orD, eqD_lnil, hH]
        refine .inr ⟨rfl, lc_L ⟨_, rfl, A.length, rfl, hn, fun Lr2 h2 hl2 => ?_⟩⟩
        refine lc_lst Lr2 rk (fun k => if decide (some ((row B r).take (ixo (row B r) w0 + 1)) = some k) = true then some (rk k) else none) (fun P h => h) (by omega) (fun k hk R hR => ?_) ?_
        · have hkm := (h2 k).mp hk
          simp
          refine .inr (.inr (.inr ⟨by decide, some ((row B r).take (ixo (row B r) w0 + 1)), k, rfl, by have := nd_len hkm.1 hkm.2; omega, ?_⟩))
          by_cases z : (row B r).take (ixo (row B r) w0 + 1) = k
          · exact .inr ⟨by simp [z], by simpa [z] using hR⟩
          · exact .inl ⟨by simp [z], by simpa [z] using hR⟩
        · rw [fm_if]
          refine ⟨by simp [pl_rk], .inl ⟨?_, ?_⟩⟩
          · rw [eqD_lnil]
            have : (Lr2.filter fun k => decide (some ((row B r).take (ixo (row B r) w0 + 1)) = some k)).map rk ≠ [] := fun z => by
              have h9 := List.map_eq_nil_iff.mp z
              have : (row B r).take (ixo (row B r) w0 + 1) ∈ Lr2.filter fun k => decide (some ((row B r).take (ixo (row B r) w0 + 1)) = some k) := List.mem_filter.mpr ⟨(h2 _).mpr ((hLr _).mp hk0), by simp⟩
              rw [h9] at this
              simp at this
            rw [decide_eq_false this]
          · refine .inl ⟨rfl, _, rfl, nD x, at0y x, by simp, by simp, ixo (row B r) x, nD x, (dTIx_at hxm).1, by simp, (dTIx_at hxm).2, ?_⟩
            rw [hb]
            simp only [oC_ni]
            rw [decide_eq_true (show (((ixo (row B r) w0 : Nat) : Int) < ((ixo (row B r) x : Nat) : Int)) by omega)]
            refine ⟨by simp, .inl ⟨rfl, List.length_pos_of_mem hwH, fun m hm1 hm2 => ⟨by simp, ?_⟩⟩⟩
            obtain ⟨w1, hw1, le⟩ := hI.low m hm1
            rw [hw2] at hw1
            cases hw1
            have le2 := hm2 _ hwH
            have em : m = ixo (row B r) w0 := by omega
            rw [em]
            have e9 : eqD (Dat.int ((ixo (row B r) w0 : Nat) : Int)) (nD (ixo (row B r) w0)) = true := by
              show eqD (nD _) (nD _) = true
              simp
            rw [e9]
            exact hQ
end
end K92
set_option maxRecDepth 100000
set_option maxHeartbeats 1000000
namespace K92
open PySem PySem.Spec PyProof.Rows L2 RZ DL LamX
open C8 (call_isC pe_gc InsC)
open M90
variable [TabC]
def WishOk (m : Nat) (rs : List (List Nat)) : Prop := 1 ≤ rs.length ∧ rs.length ≤ 20 ∧ ∀ r ∈ rs, RkOk m r
def S_are_wishes : List Dat → (Dat → Prop) → Prop := fun ds P => ∃ (r : List (List Nat)) (m : Nat), ds = [rks r, nD m] ∧ WishOk m r ∧ P (.bl true)
theorem len_are_wishes (ds : List Dat) (Q : Dat → Prop) (h : S_are_wishes ds Q) : ds.length = P_are_wishes.length := by
  obtain ⟨d, a, rfl, _⟩ := h; rfl
section
variable {P : Program} {w : World} {K : PySem.W.Frag} {mg : Str → Option Value} {base : Heap}
theorem ok_are_wishes (g : Fx K mg base) : FnOk P w K mg base L2.CX0 4 g.f_are_wishes g.fd_are_wishes P_are_wishes (spF 0 S_are_wishes) := by
  refine okD g.F_are_wishes sc_are_wishes len_are_wishes (fun cdv A outer s H E hr => ?_)
  have nd := (sc_are_wishes).nd
  refine ⟨_, SDs.cost (sds_cons (sd_if ((pwd_or (ptd_not (ptd_val (pd_callB call_isi cd_isi (by rfl) g.b_isinstance boot_isinstance (phd_cons ((pd_var (pv 0))).toSh (phd_cons ((pd_ty (pe_bltn (by rfl) g.b_tuple boot_tuple rfl))).toSh phd_nil))))) (pwd_or1 (ptd_not (ptd_chain op_le op_le od_C od_C (pd_int).toSh ((pd_callB call_lenA cd_len (by rfl) g.b_len boot_len (phd_cons ((pd_var (pv 0))).toSh phd_nil))).toSh ((pd_gi (by rfl) g.i_MOST_OWNERS)).toSh))))).pt (sds_cons (sd_ret pd_bl) sds_nil) sds_nil) (sds_cons (sd_ret (pd_callB (cr_all rfl) cd_all (by rfl) g.b_all boot_all (phd_cons ((pd_lc 1024 rfl nd (pid_tup (pd_var (pv 0))) (blkOk_by (own := [("ranking", 2)]) (by kernel_rfl)) (fun _ _ _ _ _ => (pgd_name (i := 2) nd rfl (by first | exact .inl rfl | exact .inr rfl))) (fun _ _ _ _ _ => ptsd_nil) (fun _ _ _ _ _ => (pd_call (ok_is_ranking g) (hr.mono (by decide)) (by rfl) g.g_is_ranking g.F_is_ranking.kp (b_is_ranking g) (pad_cons (pd_var (pv 2)) (pad_cons (pd_var (pv 1)) pad_nil)))))).toSh phd_nil))) sds_nil)) (by decide), fun ds Q h => ?_⟩
  obtain ⟨r, m, rfl, ⟨h1, h2, h3⟩, h4⟩ := h
  simp
  refine .inr ⟨by omega, .inr ⟨by omega, ?_⟩⟩
  refine ⟨_, rfl, _, rfl, lcp (fun _ => some (.bl true)) ?_ (fun d hd R hR => ?_) ?_⟩
  · simp; omega
  · obtain ⟨n, hn, rfl⟩ := List.mem_map.mp hd
    simp
    exact ⟨n, m, rfl, h3 n hn, hR⟩
  · rw [fm_const]
    refine ⟨_, blsD_rep, ?_⟩
    rw [all_rep]
    exact h4
end
/-- the houses that a person would take, up to the own one -/
def wntL (r : List Nat) (o : Nat) : List Nat := if o ∈ r then r.take (ixo r o + 1) else r ++ [o]
theorem ixo_cut {r : List Nat} {o : Nat} {Q : Dat → Prop} (h : Q (rk (r.take (ixo r o + 1)))) : fSl (rk r) none (some ((ixo r o : Int) + 1)) Q := by
  have sl : ∀ (lo hi : Option Int) (R : Dat → Prop), fSl (rk r) lo hi R = R (.tup (cut (r.map nD) lo hi)) := fun _ _ _ => rfl
  have e1 : ((ixo r o : Int) + 1) = ((ixo r o + 1 : Nat) : Int) := by omega
  rw [sl, e1, cutT, ← List.map_take]
  exact h
def S_up_to : List Dat → (Dat → Prop) → Prop := fun ds P => ∃ (r : List Nat) (o : Nat), ds = [rk r, nD o] ∧ r.length ≤ 100 ∧ P (rk (wntL r o))
theorem len_up_to (ds : List Dat) (Q : Dat → Prop) (h : S_up_to ds Q) : ds.length = P_up_to.length := by
  obtain ⟨d, a, rfl, _⟩ := h; rfl
section
variable {P : Program} {w : World} {K : PySem.W.Frag} {mg : Str → Option Value} {base : Heap}
theorem ok_up_to (g : Fx K mg base) : FnOk P w K mg base L2.CX0 1 g.f_up_to g.fd_up_to P_up_to (spF 0 S_up_to) := by
  refine okD g.F_up_to sc_up_to len_up_to (fun cdv A outer s H E hr => ?_)
  have nd := (sc_up_to).nd
  refine ⟨_, SDs.cost (sds_cons (sd_ret (pd_if (ptd_cmp (op_inA (ru hr)) od_in ((pd_var (pv 1))).toSh ((pd_var (pv 0))).toSh (by with_unfolding_all rfl)) (pd_slice ((pd_var (pv 0))).toSh pod_none (pod_some (pd_op op_addA od_add ((pd_tindex (pd_var (pv 0)) (pd_var (pv 1)))).toSh (pd_int).toSh))) (pd_op op_addA od_add ((pd_var (pv 0))).toSh ((pd_tup (pad_cons (pd_var (pv 1)) pad_nil))).toSh))) sds_nil) (by decide), fun ds Q h => ?_⟩
  obtain ⟨r, o, rfl, hl, hQ⟩ := h
  simp
  by_cases e : o ∈ r
  · refine .inr ⟨e, _, rfl, by simp, ixo r o, nD o, (dTIx_at e).1, by simp, (dTIx_at e).2, ixo_cut ?_⟩
    simpa [wntL, e] using hQ
  · refine .inl ⟨e, ?_⟩
    have h9 : fAdd (.tup (r.map nD)) (.tup [nD o]) Q := ⟨by simp; omega, by simpa [wntL, e, rk] using hQ⟩
    exact h9
end
def someL (o : List (Option Nat)) : List Nat := o.filterMap id
def S_are_owned : List Dat → (Dat → Prop) → Prop := fun ds P => ∃ (o : List (Option Nat)) (h : Nat), ds = [outD o, nD o.length, nD h] ∧ o.length ≤ 100 ∧ RkOk h (someL o) ∧ P (.bl true)
theorem len_are_owned (ds : List Dat) (Q : Dat → Prop) (h : S_are_owned ds Q) : ds.length = P_are_owned.length := by
  obtain ⟨d, a, rfl, _⟩ := h; rfl
theorem oat_cons {a : Option Nat} {o : List (Option Nat)} {l : Nat} : oat (a :: o) (l + 1) = oat o l := by simp [oat]
theorem some_nd : ∀ {o : List (Option Nat)}, One o → (someL o).Nodup
  | [], _ => by simp [someL]
  | a :: o, h => by
    have h' : One o := fun l y r e1 e2 => by
      have := h (l + 1) (y + 1) r (by rw [oat_cons]; exact e1) (by rw [oat_cons]; exact e2)
      omega
    have ih := some_nd h'
    cases a with
    | none => simpa [someL] using ih
    | some r =>
      have e : someL (some r :: o) = r :: someL o := by simp [someL]
      rw [e, List.nodup_cons]
      refine ⟨fun hm => ?_, ih⟩
      obtain ⟨b, hb, e2⟩ := List.mem_filterMap.mp hm
      have e3 : b = some r := e2
      subst e3
      obtain ⟨l, hl⟩ := mem_oat_iff.mp hb
      have := h 0 (l + 1) r rfl (by rw [oat_cons]; exact hl)
      omega
theorem some_ok {o : List (Option Nat)} {h : Nat} (h1 : One o) (h2 : ∀ p q, oat o p = some q → q < h) (h3 : h ≤ 20) : RkOk h (someL o) := by
  refine ⟨some_nd h1, fun x hx => ?_, h3⟩
  · obtain ⟨a, ha, e⟩ := List.mem_filterMap.mp hx
    have e2 : a = some x := e
    subst e2
    obtain ⟨l, hl⟩ := mem_oat_iff.mp ha
    exact h2 l x hl
section
variable {P : Program} {w : World} {K : PySem.W.Frag} {mg : Str → Option Value} {base : Heap}
theorem ok_are_owned (g : Fx K mg base) : FnOk P w K mg base L2.CX0 4 g.f_are_owned g.fd_are_owned P_are_owned (spF 0 S_are_owned) := by
  refine okD g.F_are_owned sc_are_owned len_are_owned (fun cdv A outer s H E hr => ?_)
  have nd := (sc_are_owned).nd
  refine ⟨_, SDs.cost (sds_cons (sd_if ((pwd_or (ptd_not (ptd_val (pd_callB call_isi cd_isi (by rfl) g.b_isinstance boot_isinstance (phd_cons ((pd_var (pv 0))).toSh (phd_cons ((pd_ty (pe_bltn (by rfl) g.b_tuple boot_tuple rfl))).toSh phd_nil))))) (pwd_or1 (ptd_cmp (op_neD (ru0 hr)) od_ne ((pd_callB call_lenA cd_len (by rfl) g.b_len boot_len (phd_cons ((pd_var (pv 0))).toSh phd_nil))).toSh ((pd_var (pv 1))).toSh (nomark _))))).pt (sds_cons (sd_ret pd_bl) sds_nil) sds_nil) (sds_cons (sd_ret (pd_call (ok_is_ranking g) (hr.mono (by decide)) (by rfl) g.g_is_ranking g.F_is_ranking.kp (b_is_ranking g) (pad_cons (pd_callTy call_tuple_ofF cd_tup (by rfl) g.b_tuple boot_tuple (phd_cons ((pd_lc 1024 rfl nd (pid_tup (pd_var (pv 0))) (blkOk_by (own := [("house", 3)]) (by kernel_rfl)) (fun _ _ _ _ _ => (pgd_name (i := 3) nd rfl (by first | exact .inl rfl | exact .inr rfl))) (fun _ _ _ _ _ => (ptsd_one (ptd_cmp op_isnA od_isn ((pd_var (pv 3))).toSh (pd_non).toSh (nomark _)))) (fun _ _ _ _ _ => (pd_var (pv 3))))).toSh phd_nil)) (pad_cons (pd_var (pv 2)) pad_nil)))) sds_nil)) (by decide), fun ds Q h => ?_⟩
  obtain ⟨o, h, rfl, hl, hr, hQ⟩ := h
  simp
  refine .inl ⟨by simp [nD, eqD], ?_⟩
  refine lc_tup o oD (fun x => x.map nD) (fun P h => ⟨_, rfl, h⟩) (by omega) (fun x hx R hR => ?_) ?_
  · simp
    cases x with
    | none => exact .inl ⟨rfl, hR⟩
    | some q => exact .inr ⟨rfl, hR⟩
  · have e : (o.filterMap fun x => x.map nD) = (someL o).map nD := by
      unfold someL
      rw [← map_omap]
      rfl
    rw [e]
    exact tup_in ⟨someL o, h, rfl, hr, hQ⟩
end
structure HM where
  rs : List (List Nat)
  hs : Nat
  ow : List (Option Nat)
  od : List Nat
structure HM.Ok (V : HM) : Prop where
  wi : WishOk V.hs V.rs
  h20 : V.hs ≤ 20
  ol : V.ow.length = V.rs.length
  oh : ∀ p q, oat V.ow p = some q → q < V.hs
  o1 : One V.ow
  od : V.od.Perm (List.range V.rs.length)
def fsH (V : HM) : List (Str × Dat) := [("rankings", rks V.rs), ("houses", nD V.hs), ("owned", outD V.ow), ("order", rk V.od)]
def pHm (C : Addr) (V : HM) : Dat := .obj C (fsH V)
@[simp] theorem lkH_r {V : HM} : List.lookup (Str.ofString "rankings") (fsH V) = some (rks V.rs) := by rfl
@[simp] theorem lkH_h {V : HM} : List.lookup (Str.ofString "houses") (fsH V) = some (nD V.hs) := by rfl
@[simp] theorem lkH_w {V : HM} : List.lookup (Str.ofString "owned") (fsH V) = some (outD V.ow) := by rfl
@[simp] theorem lkH_o {V : HM} : List.lookup (Str.ofString "order") (fsH V) = some (rk V.od) := by rfl
@[simp] theorem lkH_m {V : HM} : List.lookup (Str.ofString "wanted") (fsH V) = none := by rfl
def S_check_homes (C : Addr) : List Dat → (Dat → Prop) → Prop := fun ds P => ∃ fs, ds = [.obj C fs] ∧ P .non
theorem len_check_homes {C : Addr} (ds : List Dat) (Q : Dat → Prop) (h : S_check_homes C ds Q) : ds.length = P_check_homes.length := by
  obtain ⟨d, rfl, _⟩ := h; rfl
section
variable {P : Program} {w : World} {K : PySem.W.Frag} {mg : Str → Option Value} {base : Heap}
theorem ok_check_homes (g : Fx K mg base) : FnOk P w K mg base L2.CX0 1 g.f_check_homes g.fd_check_homes P_check_homes (spF 0 (S_check_homes g.C_Homes)) := by
  refine okD g.F_check_homes sc_check_homes len_check_homes (fun cdv A outer s H E hr => ?_)
  have nd := (sc_check_homes).nd
  refine ⟨_, SDs.cost (sds_cons (sd_if (ptd_not (ptd_val (pd_callB (call_isC g.ins_Homes) cd_isO (by rfl) g.b_isinstance boot_isinstance (phd_cons ((pd_var (pv 0))).toSh (phd_cons ((pd_cls (pe_gc (by rfl) ⟨_, g.g_Homes, rfl⟩))).toSh phd_nil))))) (sds_cons sd_never sds_nil) sds_nil) sds_nil) (by decide), fun ds Q h => ?_⟩
  obtain ⟨fs, rfl, h4⟩ := h
  simp [h4]
end
theorem pfH {V : HM} : putFD "order" (rk V.od) (putFD "owned" (outD V.ow) (putFD "houses" (nD V.hs) (putFD "rankings" (rks V.rs) []))) = fsH V := by rfl
def S_init_Homes : List Dat → (List (Str × Dat) → Prop) → Prop := fun ds P => ∃ V : HM, ds = [rks V.rs, nD V.hs, outD V.ow, rk V.od] ∧ V.Ok ∧ P (fsH V)
theorem len_init_Homes (ds : List Dat) (Q : List (Str × Dat) → Prop) (h : S_init_Homes ds Q) : ds.length + 1 = Pi_Homes.length := by
  obtain ⟨V, rfl, _⟩ := h; rfl
section
variable {P : Program} {w : World} {K : PySem.W.Frag} {mg : Str → Option Value} {base : Heap}
theorem okI_Homes (g : Fx K mg base) : FnOk P w K mg base L2.CX0 5 g.fi_Homes g.fdi_Homes Pi_Homes (spI 0 g.C_Homes S_init_Homes) := by
  refine okI g.Fi_Homes sci_Homes len_init_Homes (fun cdv A outer s H E hr => ?_)
  have nd := (sci_Homes).nd
  refine ⟨_, SIs.cost (si_chk (sd_if (ptd_not (ptd_val (pd_call (ok_is_below g) (hr.mono (by decide)) (by rfl) g.g_is_below g.F_is_below.kp (b_is_below g) (pad_cons (pd_var (pv 2)) (pad_cons (pd_op op_addA od_add ((pd_gi (by rfl) g.i_MOST_OWNERS)).toSh (pd_int).toSh) pad_nil))))) (sds_cons sd_never sds_nil) sds_nil) (si_chk (sd_if (ptd_not (ptd_val (pd_call (ok_are_wishes g) (hr.mono (by decide)) (by rfl) g.g_are_wishes g.F_are_wishes.kp (b_are_wishes g) (pad_cons (pd_var (pv 1)) (pad_cons (pd_var (pv 2)) pad_nil))))) (sds_cons sd_never sds_nil) sds_nil) (si_chk (sd_if (ptd_not (ptd_val (pd_call (ok_are_owned g) (hr.mono (by decide)) (by rfl) g.g_are_owned g.F_are_owned.kp (b_are_owned g) (pad_cons (pd_var (pv 3)) (pad_cons (pd_callB call_lenA cd_len (by rfl) g.b_len boot_len (phd_cons ((pd_var (pv 1))).toSh phd_nil)) (pad_cons (pd_var (pv 2)) pad_nil)))))) (sds_cons sd_never sds_nil) sds_nil) (si_chk (sd_if ((pwd_or (ptd_not (ptd_val (pd_call (ok_is_ranking g) (hr.mono (by decide)) (by rfl) g.g_is_ranking g.F_is_ranking.kp (b_is_ranking g) (pad_cons (pd_var (pv 4)) (pad_cons (pd_callB call_lenA cd_len (by rfl) g.b_len boot_len (phd_cons ((pd_var (pv 1))).toSh phd_nil)) pad_nil))))) (pwd_or1 (ptd_cmp (op_neD (ru0 hr)) od_ne ((pd_callB call_lenA cd_len (by rfl) g.b_len boot_len (phd_cons ((pd_var (pv 4))).toSh phd_nil))).toSh ((pd_callB call_lenA cd_len (by rfl) g.b_len boot_len (phd_cons ((pd_var (pv 1))).toSh phd_nil))).toSh (nomark _))))).pt (sds_cons sd_never sds_nil) sds_nil) (si_set g.cl_Homes g.na_Homes_rankings (pv 0) (pd_var (pv 1)) (si_set g.cl_Homes g.na_Homes_houses (pv 0) (pd_var (pv 2)) (si_set g.cl_Homes g.na_Homes_owned (pv 0) (pd_var (pv 3)) (si_set g.cl_Homes g.na_Homes_order (pv 0) (pd_var (pv 4)) si_nil)))))))) (by decide), fun ds Q p h => ?_⟩
  obtain ⟨V, rfl, ok, h2⟩ := h
  simp
  have l1 := ok.wi.2.1
  have l2 := ok.h20
  have lo := ok.od.length_eq
  rw [List.length_range] at lo
  have a1 : (putFD (Str.ofString "rankings") (rks V.rs) []).length < 1000 := by simp [putFD]
  have a2 : (putFD (Str.ofString "houses") (nD V.hs) (putFD (Str.ofString "rankings") (rks V.rs) [])).length < 1000 := by
    rw [show putFD (Str.ofString "houses") (nD V.hs) (putFD (Str.ofString "rankings") (rks V.rs) []) = ([("rankings", rks V.rs), ("houses", nD V.hs)] : List (Str × Dat)) by rfl]; simp
  have a3 : (putFD (Str.ofString "owned") (outD V.ow) (putFD (Str.ofString "houses") (nD V.hs) (putFD (Str.ofString "rankings") (rks V.rs) []))).length < 1000 := by
    rw [show putFD (Str.ofString "owned") (outD V.ow) (putFD (Str.ofString "houses") (nD V.hs) (putFD (Str.ofString "rankings") (rks V.rs) [])) = ([("rankings", rks V.rs), ("houses", nD V.hs), ("owned", outD V.ow)] : List (Str × Dat)) by rfl]; simp
  refine ⟨V.hs, 25, rfl, by simp; omega, V.rs, V.hs, rfl, ok.wi, rfl, V.ow, V.hs, by rw [ok.ol]; rfl, by rw [ok.ol]; omega, some_ok ok.o1 ok.oh l2, rfl, V.od, V.rs.length, rfl, (rk_perm ok.od (by omega)).1, rfl, by omega, a1, a2, a3, ?_⟩
  rw [pfH]
  exact h2
end
def wnt (V : HM) (p : Nat) : List Nat := match oat V.ow p with
  | none => row V.rs p
  | some o => wntL (row V.rs p) o
def S_m_wanted (C : Addr) : List Dat → (Dat → Prop) → Prop := fun ds P => ∃ (V : HM) (p : Nat), ds = [pHm C V, nD p] ∧ V.Ok ∧ p < V.rs.length ∧ P (rk (wnt V p))
theorem len_m_wanted {C : Addr} (ds : List Dat) (Q : Dat → Prop) (h : S_m_wanted C ds Q) : ds.length = Pm_Homes_wanted.length := by
  obtain ⟨V, p, rfl, _⟩ := h; rfl
section
variable {P : Program} {w : World} {K : PySem.W.Frag} {mg : Str → Option Value} {base : Heap}
theorem ok_Homes_wanted (g : Fx K mg base) : FnOk P w K mg base L2.CX0 2 g.fm_Homes_wanted g.fdm_Homes_wanted Pm_Homes_wanted (spF 0 (S_m_wanted g.C_Homes)) := by
  refine okD g.Fm_Homes_wanted scm_Homes_wanted len_m_wanted (fun cdv A outer s H E hr => ?_)
  have nd := (scm_Homes_wanted).nd
  refine ⟨_, SDs.cost (sds_cons (sd_asg (i := 2) (pd_ix (ix_all (ru1 hr)) od_ix ((pd_fld g.cl_Homes g.na_Homes_owned (pd_var (pv 0)))).toSh ((pd_var (pv 1))).toSh (fun _ _ => rfl)) nd rfl (.inl rfl)) (sds_cons (sd_ret (pd_if (ptd_cmp op_isA od_is ((pd_var (pv 2))).toSh (pd_non).toSh (nomark _)) (pd_ix (ix_all (ru1 hr)) od_ix ((pd_fld g.cl_Homes g.na_Homes_rankings (pd_var (pv 0)))).toSh ((pd_var (pv 1))).toSh (fun _ _ => rfl)) (pd_call (ok_up_to g) (hr.mono (by decide)) (by rfl) g.g_up_to g.F_up_to.kp (b_up_to g) (pad_cons (pd_ix (ix_all (ru1 hr)) od_ix ((pd_fld g.cl_Homes g.na_Homes_rankings (pd_var (pv 0)))).toSh ((pd_var (pv 1))).toSh (fun _ _ => rfl)) (pad_cons (pd_var (pv 2)) pad_nil))))) sds_nil)) (by decide), fun ds Q h => ?_⟩
  obtain ⟨V, p, rfl, ok, hp, hQ⟩ := h
  simp [pHm]
  have hl := (ok.wi.2.2 _ (row_mem hp)).len
  refine Eq.mpr (fIx_out (by rw [ok.ol]; exact hp)) ?_
  cases e : oat V.ow p with
  | none =>
    refine .inr ⟨rfl, Eq.mpr (fIx_rks hp) ?_⟩
    simpa [wnt, e] using hQ
  | some o =>
    refine .inl ⟨rfl, Eq.mpr (fIx_rks hp) ⟨row V.rs p, o, rfl, by omega, ?_⟩⟩
    simpa [wnt, e] using hQ
end
end K92
set_option maxRecDepth 100000
set_option maxHeartbeats 2000000
/-! H0: steps from one to the next, cycles, ways. -/
namespace K92
open PySem PySem.Spec PyProof.Rows L2 RZ DL M90
variable [TabC]
section
variable {nx : Nat → Option Nat} {p q r s a b : Nat} {k j i : Nat} {w : List Nat}
def itr (nx : Nat → Option Nat) : Nat → Nat → Option Nat
  | 0, p => some p
  | k + 1, p => (nx p).bind (itr nx k)
def Cyc (nx : Nat → Option Nat) (p : Nat) : Prop := ∃ k, 1 ≤ k ∧ itr nx k p = some p
def Rch (nx : Nat → Option Nat) (p q : Nat) : Prop := ∃ k, itr nx k p = some q
theorem itr_add : ∀ (j k p : Nat), itr nx (j + k) p = (itr nx j p).bind (itr nx k)
  | 0, k, p => by rw [Nat.zero_add]; rfl
  | j + 1, k, p => by
    rw [Nat.succ_add]
    show (nx p).bind (itr nx (j + k)) = ((nx p).bind (itr nx j)).bind (itr nx k)
    cases nx p with
    | none => rfl
    | some q => exact itr_add j k q
theorem itr_one : itr nx 1 p = nx p := by
  show (nx p).bind (fun q => some q) = nx p
  cases nx p <;> rfl
theorem itr_succ (h : itr nx k p = some q) : itr nx (k + 1) p = nx q := by
  rw [itr_add, h]
  exact itr_one
theorem Rch.refl : Rch nx p p := ⟨0, rfl⟩
theorem Rch.trans (h : Rch nx p q) (h2 : Rch nx q r) : Rch nx p r := by
  obtain ⟨j, hj⟩ := h
  obtain ⟨k, hk⟩ := h2
  exact ⟨j + k, by rw [itr_add, hj]; exact hk⟩
theorem itr_mul (h : itr nx k p = some p) : ∀ n, itr nx (n * k) p = some p
  | 0 => by rw [Nat.zero_mul]; rfl
  | n + 1 => by rw [Nat.succ_mul, itr_add, itr_mul h n]; exact h
/-- on a cycle one comes back from wherever one goes -/
theorem Cyc.back (c : Cyc nx p) (h : Rch nx p q) : Rch nx q p := by
  obtain ⟨k, hk, e⟩ := c
  obtain ⟨j, hj⟩ := h
  have h1 := itr_mul e (j + 1)
  have hle : j ≤ (j + 1) * k := Nat.le_trans (Nat.le_succ j) (Nat.le_mul_of_pos_right _ hk)
  refine ⟨(j + 1) * k - j, ?_⟩
  have h2 : itr nx (j + ((j + 1) * k - j)) p = some p := by rw [show j + ((j + 1) * k - j) = (j + 1) * k by omega]; exact h1
  rw [itr_add, hj] at h2
  exact h2
theorem Cyc.rch (c : Cyc nx p) (h : Rch nx p q) : Cyc nx q := by
  obtain ⟨j, hj⟩ := c.back h
  obtain ⟨i, hi⟩ := h
  obtain ⟨k, hk, e⟩ := c
  refine ⟨j + (k + i), by omega, ?_⟩
  rw [itr_add, hj]
  show itr nx (k + i) p = some q
  rw [itr_add, e]
  exact hi
theorem Cyc.ex (c : Cyc nx p) : ∃ q, nx p = some q := by
  obtain ⟨k, hk, e⟩ := c
  cases q : nx p with
  | some x => exact ⟨x, rfl⟩
  | none =>
    obtain ⟨m, rfl⟩ : ∃ m, k = m + 1 := ⟨k - 1, by omega⟩
    have : (nx p).bind (itr nx m) = some p := e
    rw [q] at this
    cases this
theorem Cyc.next (c : Cyc nx p) (h : nx p = some q) : Cyc nx q := c.rch ⟨1, by rw [itr_one]; exact h⟩
theorem cyc_pre (h : nx p = some r) (hk : 1 ≤ k) (e : itr nx k p = some p) : itr nx (k - 1) r = some p := by
  obtain ⟨m, rfl⟩ : ∃ m, k = m + 1 := ⟨k - 1, by omega⟩
  have : (nx p).bind (itr nx m) = some p := e
  rw [h] at this
  exact this
/-- no two on cycles go to the same -/
theorem cyc_inj (c : Cyc nx p) (c2 : Cyc nx q) (h : nx p = some r) (h2 : nx q = some r) : p = q := by
  obtain ⟨k, hk, e⟩ := c
  obtain ⟨j, hj, e2⟩ := c2
  have a1 : itr nx (j * k) p = some p := itr_mul e j
  have a2 : itr nx (j * k) q = some q := by rw [Nat.mul_comm]; exact itr_mul e2 k
  have hpos : 1 ≤ j * k := Nat.mul_pos hj hk
  have b1 := cyc_pre h hpos a1
  have b2 := cyc_pre h2 hpos a2
  rw [b1] at b2
  exact Option.some.inj b2
/-- where all go on within a set, one is on a cycle -/
theorem cyc_ex {S : List Nat} (h0 : S ≠ []) (h : ∀ p ∈ S, ∃ q ∈ S, nx p = some q) : ∃ p ∈ S, Cyc nx p := by
  obtain ⟨s, hs⟩ := List.exists_mem_of_ne_nil S h0
  have all : ∀ k, ∃ q ∈ S, itr nx k s = some q := fun k => by
    induction k with
    | zero => exact ⟨s, hs, rfl⟩
    | succ k ih =>
      obtain ⟨q, hq, e⟩ := ih
      obtain ⟨t, ht, e2⟩ := h q hq
      exact ⟨t, ht, by rw [itr_succ e]; exact e2⟩
  have hex : ∃ i j, i < j ∧ itr nx i s = itr nx j s := Classical.byContradiction fun hn => by
    have nd : ((List.range (S.length + 1)).map fun k => (itr nx k s).getD 0).Nodup := by
      refine List.pairwise_map.mpr (List.Pairwise.imp (R := (· < ·)) ?_ List.pairwise_lt_range)
      intro a b hab e
      refine hn ⟨a, b, hab, ?_⟩
      obtain ⟨x, _, ex⟩ := all a
      obtain ⟨y, _, ey⟩ := all b
      rw [ex, ey] at e ⊢
      exact congrArg some e
    have le := List.Nodup.length_le_of_subset nd (l₂ := S) fun x hx => by
      obtain ⟨k, _, e⟩ := List.mem_map.mp hx
      obtain ⟨y, hy, ey⟩ := all k
      rw [ey] at e
      rw [← e]
      exact hy
    rw [List.length_map, List.length_range] at le
    omega
  obtain ⟨i, j, hij, e⟩ := hex
  obtain ⟨a, ha, ea⟩ := all i
  refine ⟨a, ha, j - i, by omega, ?_⟩
  have : itr nx (i + (j - i)) s = some a := by rw [show i + (j - i) = j by omega, ← e]; exact ea
  rw [itr_add, ea] at this
  exact this
theorem ex_min (P : Nat → Prop) (h : ∃ n, P n) : ∃ m, P m ∧ ∀ k, P k → m ≤ k := by
  obtain ⟨n, hn⟩ := h
  induction n using Nat.strongRecOn with
  | ind n ih =>
    by_cases q : ∃ k, k < n ∧ P k
    · obtain ⟨k, h1, h2⟩ := q
      exact ih k h1 h2
    · exact ⟨n, hn, fun k hk => Nat.le_of_not_lt fun lt => q ⟨k, lt, hk⟩⟩

/-! ### a way without repetition -/
structure Way (nx : Nat → Option Nat) (s : Nat) (w : List Nat) (at' : Nat) : Prop where
  hd : w[0]? = some s
  nd : w.Nodup
  st : ∀ i a, w[i]? = some a → nx a = (w ++ [at'])[i + 1]?
theorem way_one (h : nx s = some a) : Way nx s [s] a := ⟨rfl, by simp, fun i x e => by
  cases i with
  | zero => simp at e; subst e; simpa using h
  | succ i => simp at e⟩
theorem Way.pos (W : Way nx s w a) : 1 ≤ w.length := by
  have := (List.getElem?_eq_some_iff.mp W.hd).1
  omega
theorem Way.more (W : Way nx s w a) (hn : a ∉ w) (h : nx a = some b) : Way nx s (w ++ [a]) b := by
  have hp := W.pos
  refine ⟨by rw [List.getElem?_append_left (by omega)]; exact W.hd, ?_, fun i x e => ?_⟩
  · rw [List.nodup_append]
    refine ⟨W.nd, by simp, fun y hy z hz e => ?_⟩
    rw [List.mem_singleton.mp hz] at e
    exact hn (e ▸ hy)
  · rcases Nat.lt_or_ge i w.length with q | q
    · rw [List.getElem?_append_left q] at e
      rw [W.st i x e, List.getElem?_append_left (l₁ := w ++ [a]) (by simp; omega)]
    · have hi : i = w.length := by
        have := (List.getElem?_eq_some_iff.mp e).1
        simp at this
        omega
      subst hi
      simp at e
      subst e
      rw [h]
      simp
theorem Way.it (W : Way nx s w a) : ∀ i x, (w ++ [a])[i]? = some x → itr nx i s = some x
  | 0, x, e => by
    rw [List.getElem?_append_left W.pos, W.hd] at e
    exact e
  | i + 1, x, e => by
    have hi : i < w.length := by
      have := (List.getElem?_eq_some_iff.mp e).1
      simp at this
      omega
    have h1 : (w ++ [a])[i]? = some w[i] := by rw [List.getElem?_append_left hi]; exact List.getElem?_eq_getElem hi
    rw [itr_succ (W.it i _ h1), W.st i _ (List.getElem?_eq_getElem hi)]
    exact e
theorem Way.cyc (W : Way nx s w s) : Cyc nx s := ⟨w.length, W.pos, W.it _ _ (by simp)⟩
theorem Way.mem (W : Way nx s w s) : q ∈ w ↔ Rch nx s q := by
  constructor
  · intro h
    obtain ⟨i, hi⟩ := List.getElem?_of_mem h
    have hl := (List.getElem?_eq_some_iff.mp hi).1
    exact ⟨i, W.it i q (by rw [List.getElem?_append_left hl]; exact hi)⟩
  · rintro ⟨k, hk⟩
    induction k generalizing q with
    | zero =>
      cases hk
      exact List.mem_of_getElem? W.hd
    | succ k ih =>
      have hex : ∃ b, itr nx k s = some b := by
        cases e : itr nx k s with
        | some b => exact ⟨b, rfl⟩
        | none => rw [itr_add, e] at hk; cases hk
      obtain ⟨b, hb⟩ := hex
      rw [itr_succ hb] at hk
      obtain ⟨i, hi⟩ := List.getElem?_of_mem (ih hb)
      rw [W.st i b hi] at hk
      have := List.mem_of_getElem? hk
      rcases List.mem_append.mp this with z | z
      · exact z
      · rw [List.mem_singleton.mp z]; exact List.mem_of_getElem? W.hd
/-- the way ends where it began if it began on a cycle -/
theorem Way.end_ (W : Way nx s w a) (c : Cyc nx s) (h : nx a = none ∨ a ∈ w) : a = s := by
  have hr : Rch nx s a := ⟨w.length, W.it _ _ (by simp)⟩
  have ca := c.rch hr
  rcases h with h | h
  · obtain ⟨q, hq⟩ := ca.ex
    rw [h] at hq; cases hq
  · obtain ⟨i, hi⟩ := List.getElem?_of_mem h
    have hl := (List.getElem?_eq_some_iff.mp hi).1
    cases i with
    | zero => rw [W.hd] at hi; exact (Option.some.inj hi).symm
    | succ i =>
      have p1 : w[i]? = some w[i] := List.getElem?_eq_getElem (by omega)
      have p2 : w[w.length - 1]? = some w[w.length - 1] := List.getElem?_eq_getElem (by omega)
      have s1 := W.st _ _ p1
      rw [List.getElem?_append_left hl, hi] at s1
      have s2 := W.st _ _ p2
      rw [show w.length - 1 + 1 = w.length by omega, show (w ++ [a])[w.length]? = some a by simp] at s2
      have c1 : Cyc nx w[i] := c.rch ⟨i, W.it i _ (by rw [List.getElem?_append_left (by omega)]; exact p1)⟩
      have c2 : Cyc nx w[w.length - 1] := c.rch ⟨w.length - 1, W.it _ _ (by rw [List.getElem?_append_left (by omega)]; exact p2)⟩
      have e := cyc_inj c1 c2 s1 s2
      have := (List.getElem_inj (h₀ := by omega) (h₁ := by omega) W.nd).mp e
      omega
/-- a cycle has a closed way -/
theorem cyc_way (c : Cyc nx s) : ∃ w, Way nx s w s := by
  obtain ⟨k, ⟨hk, e⟩, hmin⟩ := ex_min (fun k => 1 ≤ k ∧ itr nx k s = some s) c
  have all : ∀ i, i ≤ k → ∃ x, itr nx i s = some x := fun i hi => by
    cases q : itr nx i s with
    | some x => exact ⟨x, rfl⟩
    | none =>
      have : itr nx (i + (k - i)) s = some s := by rw [show i + (k - i) = k by omega]; exact e
      rw [itr_add, q] at this
      cases this
  have get : ∀ i, i < k → ((List.range k).map fun i => (itr nx i s).getD 0)[i]? = itr nx i s := fun i hi => by
    obtain ⟨x, hx⟩ := all i (by omega)
    simp [hi, hx]
  refine ⟨(List.range k).map fun i => (itr nx i s).getD 0, by rw [get 0 (by omega)]; rfl, ?_, fun i a ha => ?_⟩
  · refine List.pairwise_map.mpr ((List.pairwise_lt_range (n := k)).imp_of_mem fun {i j} hi hj hij e2 => ?_)
    have hi' := List.mem_range.mp hi
    have hj' := List.mem_range.mp hj
    obtain ⟨x, hx⟩ := all i (by omega)
    obtain ⟨y, hy⟩ := all j (by omega)
    rw [hx, hy] at e2
    have e3 : x = y := e2
    subst e3
    have h1 : itr nx (k - j) x = some s := by
      have : itr nx (j + (k - j)) s = some s := by rw [show j + (k - j) = k by omega]; exact e
      rw [itr_add, hy] at this
      exact this
    have h2 : itr nx (i + (k - j)) s = some s := by rw [itr_add, hx]; exact h1
    have := hmin (i + (k - j)) ⟨by omega, h2⟩
    omega
  · have hi : i < k := by
      have := (List.getElem?_eq_some_iff.mp ha).1
      simpa using this
    rw [get i hi] at ha
    rw [← itr_succ ha]
    rcases Nat.lt_or_ge (i + 1) k with q | q
    · rw [List.getElem?_append_left (by simpa using q), get _ q]
    · have : i + 1 = k := by omega
      rw [this, e]
      simp
end
end K92
set_option maxRecDepth 100000
set_option maxHeartbeats 1000000
namespace K92
open PySem PySem.Spec PyProof.Rows L2 RZ DL LamX
open C8 (call_isC pe_gc InsC)
open M90
variable [TabC]
/-- the steps that a dict tells -/
def lk (l : List (Nat × Nat)) (p : Nat) : Option Nat := (l.find? fun q => decide (q.1 = p)).map (·.2)
def fD (l : List (Nat × Nat)) : List (Key × Dat) := l.map fun q => (.inl (q.1 : Int), nD q.2)
theorem look_fD {l : List (Nat × Nat)} {p : Nat} : lookD (fD l) (.inl (p : Int)) = (lk l p).map nD := by
  unfold lookD fD lk
  induction l with
  | nil => rfl
  | cons a l ih =>
    rw [List.map_cons, List.find?_cons, List.find?_cons]
    by_cases h : a.1 = p
    · simp [h]
    · have h' : ¬ ((a.1 : Int) = (p : Int)) := by omega
      simpa [h, h'] using ih
theorem lk_key {l : List (Nat × Nat)} {p : Nat} : (lk l p).isSome = true ↔ p ∈ l.map (·.1) := by
  unfold lk
  rw [Option.isSome_map, List.find?_isSome]
  simp
/-- the rings of the first starts -/
def RingI (nx : Nat → Option Nat) (ss : List Nat) (rg : List (List Nat)) : Prop := rg.flatten.Nodup ∧ ∀ p, p ∈ rg.flatten ↔ ∃ m ∈ ss, Cyc nx m ∧ Rch nx m p ∧ ∀ q, Rch nx m q → m ≤ q
theorem RingI.yes {nx : Nat → Option Nat} {ss : List Nat} {rg : List (List Nat)} {s : Nat} {w : List Nat} (h : RingI nx ss rg) (W : Way nx s w s) (hm : ∀ q ∈ w, s ≤ q) (hn : s ∉ ss) : RingI nx (ss ++ [s]) (rg ++ [w]) := by
  obtain ⟨h1, h2⟩ := h
  have cs := W.cyc
  refine ⟨?_, fun p => ?_⟩
  · rw [List.flatten_append, List.nodup_append]
    refine ⟨h1, by simpa using W.nd, fun a ha b hb e => ?_⟩
    subst e
    obtain ⟨m, hm1, cm, rm, mm⟩ := (h2 a).mp ha
    have rs : Rch nx s a := W.mem.mp (by simpa using hb)
    have ms : Rch nx m s := rm.trans (cs.back rs)
    have sm : Rch nx s m := rs.trans (cm.back rm)
    have a1 := mm _ ms
    have a2 := hm _ (W.mem.mpr sm)
    have : m = s := by omega
    exact hn (this ▸ hm1)
  · rw [List.flatten_append, List.mem_append, h2 p]
    constructor
    · rintro (⟨m, a, b⟩ | h)
      · exact ⟨m, List.mem_append_left _ a, b⟩
      · have : p ∈ w := by simpa using h
        exact ⟨s, by simp, cs, W.mem.mp this, fun q hq => hm q (W.mem.mpr hq)⟩
    · rintro ⟨m, a, cm, rm, mm⟩
      rcases List.mem_append.mp a with z | z
      · exact .inl ⟨m, z, cm, rm, mm⟩
      · rw [List.mem_singleton.mp z] at rm
        right
        simpa using W.mem.mpr rm
theorem RingI.no {nx : Nat → Option Nat} {ss : List Nat} {rg : List (List Nat)} {s a : Nat} {w : List Nat} (h : RingI nx ss rg) (W : Way nx s w a) (hend : nx a = none ∨ a ∈ w) (hno : ¬ (a = s ∧ ∀ q ∈ w, s ≤ q)) : RingI nx (ss ++ [s]) rg := by
  refine ⟨h.1, fun p => (h.2 p).trans ⟨fun ⟨m, x, y⟩ => ⟨m, List.mem_append_left _ x, y⟩, fun ⟨m, x, cm, rm, mm⟩ => ?_⟩⟩
  rcases List.mem_append.mp x with z | z
  · exact ⟨m, z, cm, rm, mm⟩
  · rw [List.mem_singleton.mp z] at cm rm mm
    have e := W.end_ cm hend
    subst e
    exact (hno ⟨rfl, fun q hq => mm q (W.mem.mp hq)⟩).elim
theorem RingI.all {l : List (Nat × Nat)} {ss : List Nat} {rg : List (List Nat)} (h : RingI (lk l) ss rg) (hs : ss.Perm (l.map (·.1))) (p : Nat) : p ∈ rg.flatten ↔ Cyc (lk l) p := by
  rw [h.2 p]
  constructor
  · rintro ⟨m, _, cm, rm, _⟩
    exact cm.rch rm
  · intro c
    obtain ⟨m, hm, mm⟩ := ex_min (fun q => Rch (lk l) p q) ⟨p, .refl⟩
    have cm := c.rch hm
    obtain ⟨q, hq⟩ := cm.ex
    exact ⟨m, hs.mem_iff.mpr (lk_key.mp (by rw [hq]; rfl)), cm, c.back hm, fun q hq => mm q (hm.trans hq)⟩
def S_cycles_of : List Dat → (Dat → Prop) → Prop := fun ds P => ∃ l : List (Nat × Nat), ds = [.dct (fD l)] ∧ (l.map (·.1)).Nodup ∧ l.length ≤ 24 ∧ ∀ rg : List (List Nat), rg.flatten.Nodup → (∀ p, p ∈ rg.flatten ↔ Cyc (lk l) p) → rg.length ≤ 24 → P (.lst (rg.map rk))
theorem len_cycles_of (ds : List Dat) (Q : Dat → Prop) (h : S_cycles_of ds Q) : ds.length = P_cycles_of.length := by
  obtain ⟨l, rfl, _⟩ := h; rfl
section
variable {P : Program} {w : World} {K : PySem.W.Frag} {mg : Str → Option Value} {base : Heap}
theorem ok_cycles_of (g : Fx K mg base) : FnOk P w K mg base L2.CX0 1 g.f_cycles_of g.fd_cycles_of P_cycles_of (spF 0 S_cycles_of) := by
  refine okD g.F_cycles_of sc_cycles_of len_cycles_of (fun cdv A outer s H E hr => ?_)
  have nd := (sc_cycles_of).nd
  refine ⟨_, SDs.cost (sds_cons (sd_asgO (i := 1) (pd_lst pad_nil) nd rfl (.inl rfl)) (sds_cons (sd_for 64 PassesOwn.never rfl (pid_list ((pd_callB (call_sortDI rfl) cd_sortDI (by rfl) g.b_sorted boot_sorted (phd_cons ((pd_var (pv 0))).toSh phd_nil))).frz) (pgd_name (i := 2) nd rfl (.inl rfl)) (sds_cons (sd_par (i := 3) (j := 4) (pmd_cons (m := .fr) (pd_lst (pad_cons (pd_var (pv 2)) pad_nil)) (pmd_cons (m := .rep) (pd_ix (ix_all (ru1 hr)) od_ix ((pd_var (pv 0))).toSh ((pd_var (pv 2))).toSh (fun _ _ => rfl)) pmd_nil)) rfl rfl nd rfl rfl (by decide) rfl rfl (by rfl)) (sds_cons (sd_while 64 PassesOwn.never ((pwd_and (ptd_cmp (op_inA (ru hr)) od_in ((pd_var (pv 4))).toSh ((pd_var (pv 0))).toSh (by with_unfolding_all rfl)) (pwd_and1 (ptd_cmp (op_notinA (ru hr)) od_notin ((pd_var (pv 4))).toSh (pd_varS (pv 3)) (by with_unfolding_all rfl))))).pt (sds_cons (sd_app (pv 3) (pd_var (pv 4))) (sds_cons (sd_asg (i := 4) (pd_ix (ix_all (ru1 hr)) od_ix ((pd_var (pv 0))).toSh ((pd_var (pv 4))).toSh (fun _ _ => rfl)) nd rfl (.inl rfl)) sds_nil))) (sds_cons (sd_if ((pwd_and (ptd_cmp (op_eqD (ru0 hr)) od_eq ((pd_var (pv 4))).toSh ((pd_var (pv 2))).toSh (nomark _)) (pwd_and1 (ptd_cmp (op_eqD (ru0 hr)) od_eq ((pd_var (pv 2))).toSh ((pd_callB (call_minA rfl) cd_min (by rfl) g.b_min boot_min (phd_cons (pd_varS (pv 3)) phd_nil))).toSh (nomark _))))).pt (sds_cons (sd_app (pv 1) (pd_callTy call_tuple_ofF cd_tup (by rfl) g.b_tuple boot_tuple (phd_cons (pd_varS (pv 3)) phd_nil))) sds_nil) sds_nil) sds_nil)))) (sds_cons (((sd_ret (pd_var (pv 1)))).frz 1) sds_nil))) (by decide), fun ds Q h => ?_⟩
  obtain ⟨l, rfl, hnd, hl, hQ⟩ := h
  simp
  refine for_L ⟨_, rfl, l.map fun q => (q.1 : Int), by simp [fD, Function.comp_def], by simp; omega, fun ys hy hys => ?_⟩
  obtain ⟨zs, hz, rfl⟩ := L2.perm_lift (fun (n : Nat) => (n : Int)) hy (l.map (·.1)) (by simp [Function.comp_def])
  have hzl : zs.length = l.length := by have := hz.length_eq; simpa using this
  have hznd : zs.Nodup := hz.symm.nodup hnd
  refine for_mapL zs nD (fun P h => by rw [List.map_map]; exact h) (by omega) (fun i ε => ∃ (rg : List (List Nat)) (x2 x3 x4 : Sl), ε = [.val (.dct (fD l)), .own (.lst (rg.map rk)), x2, x3, x4] ∧ RingI (lk l) (zs.take i) rg ∧ rg.length ≤ i) ⟨[], _, _, _, rfl, ⟨by simp, by simp⟩, by simp⟩ (fun i s ε hs ⟨rg, x2, x3, x4, hε, hI, hrl⟩ => ?_) (fun ε ⟨rg, x2, x3, x4, hε, hI, hrl⟩ => ?_)
  · subst hε
    have hsk : s ∈ l.map (·.1) := hz.mem_iff.mp (List.mem_of_getElem? hs)
    obtain ⟨a, ha⟩ := Option.isSome_iff_exists.mp (lk_key.mpr hsk)
    have hil := (List.getElem?_eq_some_iff.mp hs).1
    have htk : zs.take (i + 1) = zs.take i ++ [s] := by rw [List.take_add_one, hs]; rfl
    have hns : s ∉ zs.take i := fun hm => by
      have : (zs.take (i + 1)).Nodup := hznd.sublist (List.take_sublist _ _)
      rw [htk, List.nodup_append] at this
      exact this.2.2 s hm s (by simp) rfl
    simp
    refine ⟨nD a, by rw [look_fD, ha]; rfl, ?_⟩
    refine ⟨fun m ε => ∃ (w : List Nat) (a : Nat), ε = [.val (.dct (fD l)), .own (.lst (rg.map rk)), .val (nD s), .own (.lst (w.map nD)), .val (nD a)] ∧ Way (lk l) s w a ∧ (∀ x ∈ w, x ∈ l.map (·.1)) ∧ m = l.length - w.length, ⟨l.length - 1, by omega, [s], a, rfl, way_one ha, by simpa using hsk, rfl⟩, fun m ε ⟨w, a, hε, W, hw, hm⟩ => ?_⟩
    subst hε
    have hwl : w.length ≤ l.length := by
      have := List.Nodup.length_le_of_subset W.nd (l₂ := l.map (·.1)) fun x hx => hw x hx
      simpa using this
    have fin : (lk l a = none ∨ a ∈ w) → (¬a = s ∧ ∃ rg_1 : List (List Nat), List.map rk rg = List.map rk rg_1 ∧ RingI (lk l) (List.take (i + 1) zs) rg_1 ∧ rg_1.length ≤ i + 1) ∨ a = s ∧ 0 < w.length ∧ ∀ (a : Nat), a ∈ w → (∀ (a_2 : Nat), a_2 ∈ w → a ≤ a_2) →
        (eqD (nD s) (Dat.int ↑a) = false ∧ ∃ rg_1 : List (List Nat), List.map rk rg = List.map rk rg_1 ∧ RingI (lk l) (List.take (i + 1) zs) rg_1 ∧ rg_1.length ≤ i + 1) ∨
        eqD (nD s) (Dat.int ↑a) = true ∧ rg.length < 100000 ∧ ∃ rg_1 : List (List Nat), List.map rk rg ++ [Dat.tup (List.map nD w)] = List.map rk rg_1 ∧ RingI (lk l) (List.take (i + 1) zs) rg_1 ∧ rg_1.length ≤ i + 1 := fun hend => by
      rw [htk]
      by_cases e : a = s
      · refine .inr ⟨e, W.pos, fun b hb hmin => ?_⟩
        have e2 : eqD (nD s) (Dat.int (b : Int)) = decide (s = b) := eqD_nn
        rw [e2]
        have hsw := List.mem_of_getElem? W.hd
        by_cases q : s = b
        · subst e q
          exact .inr ⟨by simp, by omega, rg ++ [w], by simp [rk], hI.yes W hmin hns, by simp; omega⟩
        · refine .inl ⟨by simp [q], rg, rfl, hI.no W hend (fun h => q ?_), by omega⟩
          have := hmin s hsw
          have := h.2 b hb
          omega
      · exact .inl ⟨e, rg, rfl, hI.no W hend fun h => e h.1, by omega⟩
    simp
    refine ⟨_, rfl, ?_⟩
    rw [look_fD]
    cases hka : lk l a with
    | none => exact .inl ⟨rfl, fin (.inl hka)⟩
    | some b =>
      refine .inr ⟨rfl, ?_⟩
      by_cases hm2 : a ∈ w
      · exact .inl ⟨hm2, fin (.inr hm2)⟩
      · have hak : a ∈ l.map (·.1) := lk_key.mp (by rw [hka]; rfl)
        have W2 := W.more hm2 hka
        have hw2 : ∀ x ∈ w ++ [a], x ∈ l.map (·.1) := fun x hx => by
          rcases List.mem_append.mp hx with z | z
          · exact hw x z
          · rw [List.mem_singleton.mp z]; exact hak
        have hwl2 : w.length + 1 ≤ l.length := by
          have := List.Nodup.length_le_of_subset W2.nd (l₂ := l.map (·.1)) fun x hx => hw2 x hx
          simpa using this
        exact .inr ⟨fun x hx e => hm2 (e ▸ hx), by omega, nD b, rfl, l.length - (w.length + 1), by omega, w ++ [a], b, by simp, W2, fun x hx => by simpa using hw2 x hx, by simp⟩
  · subst hε
    rw [List.take_of_length_le (by omega)] at hI
    simp
    exact hQ rg hI.1 (hI.all hz) (by omega)
end
end K92
set_option maxRecDepth 100000
set_option maxHeartbeats 2000000
/-! H2: one turn, all turns. -/
namespace K92
open PySem PySem.Spec PyProof.Rows L2 RZ DL M90
variable [TabC]
def bst (V : HM) (free : List Nat) (p : Nat) : Option Nat := (wnt V p).find? fun c => decide (c ∈ free)
def kpr (V : HM) (left : List Nat) (c : Nat) : Nat := (left.filter (fun p => decide (oat V.ow p = some c)) ++ V.od.filter (fun p => decide (p ∈ left))).headD 0
def lokL (V : HM) (left free : List Nat) : List (Nat × Nat) := left.filterMap fun p => (bst V free p).map fun b => (p, b)
def folL (V : HM) (left free : List Nat) : List (Nat × Nat) := left.filterMap fun p => (bst V free p).map fun b => (p, kpr V left b)
def folT (V : HM) (left free L : List Nat) : List (Nat × Nat) := L.filterMap fun p => ((bst V free p).map (kpr V left)).map fun b => (p, b)
def lv (V : HM) (left free : List Nat) (p : Nat) : Prop := bst V free p = none ∨ Cyc (lk (folL V left free)) p
noncomputable def goL (V : HM) (left free : List Nat) : List Nat := left.filter fun p => decP (lv V left free p)
def rwD (q : Nat × Option Nat) : Dat := .tup [nD q.1, oD q.2]
noncomputable def turnL (V : HM) (left free : List Nat) : List (Nat × Option Nat) := (goL V left free).map fun p => (p, bst V free p)
noncomputable def turnsF (V : HM) : Nat → List Nat → List Nat → List (List (Nat × Option Nat))
  | 0, _, _ => []
  | k + 1, left, free => if left = [] then [] else turnL V left free :: turnsF V k (left.filter fun p => !decide (p ∈ goL V left free)) (free.filter fun c => !decide (some c ∈ (turnL V left free).map (·.2)))
section
variable {V : HM} {left free : List Nat} {p q c : Nat}
theorem wnt_none (e : oat V.ow p = none) : wnt V p = row V.rs p := by unfold wnt; rw [e]
theorem wnt_some {o : Nat} (e : oat V.ow p = some o) : wnt V p = wntL (row V.rs p) o := by unfold wnt; rw [e]
theorem wnt_ok (ok : V.Ok) (hp : p < V.rs.length) : (wnt V p).Nodup ∧ (∀ x ∈ wnt V p, x < V.hs) ∧ (wnt V p).length ≤ 20 ∧ (∀ o, oat V.ow p = some o → o ∈ wnt V p) := by
  have hr := ok.wi.2.2 _ (row_mem hp)
  have h20 := ok.h20
  cases e : oat V.ow p with
  | none =>
    rw [wnt_none e]
    exact ⟨hr.1, hr.2.1, hr.len, fun o z => by cases z⟩
  | some o =>
    have ho := ok.oh p o e
    rw [wnt_some e]
    unfold wntL
    by_cases m : o ∈ row V.rs p
    · rw [if_pos m]
      refine ⟨hr.1.sublist (List.take_sublist _ _), fun x hx => hr.2.1 x (List.mem_of_mem_take hx), ?_, fun o' z => ?_⟩
      · have := hr.len
        simp
        omega
      · cases z
        exact (take_ixo hr.1).mpr ⟨m, by omega⟩
    · rw [if_neg m]
      have nd : (row V.rs p ++ [o]).Nodup := by
        rw [List.nodup_append]
        refine ⟨hr.1, by simp, fun a ha b hb e => ?_⟩
        rw [List.mem_singleton.mp hb] at e
        exact m (e ▸ ha)
      have lt : ∀ x ∈ row V.rs p ++ [o], x < V.hs := fun x hx => by
        rcases List.mem_append.mp hx with z | z
        · exact hr.2.1 x z
        · rw [List.mem_singleton.mp z]; exact ho
      refine ⟨nd, lt, ?_, fun o' z => by cases z; simp⟩
      have := nd_len nd lt
      omega
theorem lk_fm {f : Nat → Option Nat} (hnd : left.Nodup) (hp : p ∈ left) : lk (left.filterMap fun p => (f p).map fun b => (p, b)) p = f p := by
  induction left with
  | nil => simp at hp
  | cons a left ih =>
    rw [List.nodup_cons] at hnd
    rw [List.filterMap_cons]
    by_cases e : a = p
    · subst e
      cases q : f a with
      | some b => simp [lk]
      | none =>
        simp only [q, Option.map_none]
        have : lk (left.filterMap fun p => (f p).map fun b => (p, b)) a = none := by
          cases q2 : lk (left.filterMap fun p => (f p).map fun b => (p, b)) a with
          | none => rfl
          | some z =>
            have h1 := lk_key.mp (show (lk (left.filterMap fun p => (f p).map fun b => (p, b)) a).isSome = true by rw [q2]; rfl)
            obtain ⟨⟨x, y⟩, h2, h3⟩ := List.mem_map.mp h1
            obtain ⟨t, ht, e2⟩ := List.mem_filterMap.mp h2
            cases q3 : f t with
            | none => rw [q3] at e2; cases e2
            | some b =>
              rw [q3] at e2
              cases e2
              exact (hnd.1 (h3 ▸ ht)).elim
        exact this
    · have hp2 : p ∈ left := by
        rcases List.mem_cons.mp hp with z | z
        · exact (e z.symm).elim
        · exact z
      have := ih hnd.2 hp2
      cases q : f a with
      | none => simpa [q] using this
      | some b =>
        simp only [q, Option.map_some]
        unfold lk at this ⊢
        rw [List.find?_cons]
        simp only [e, decide_false]
        exact this
theorem lk_out {f : Nat → Option Nat} (hp : p ∉ left) : lk (left.filterMap fun p => (f p).map fun b => (p, b)) p = none := by
  cases q2 : lk (left.filterMap fun p => (f p).map fun b => (p, b)) p with
  | none => rfl
  | some z =>
    have h1 := lk_key.mp (show (lk (left.filterMap fun p => (f p).map fun b => (p, b)) p).isSome = true by rw [q2]; rfl)
    obtain ⟨⟨x, y⟩, h2, h3⟩ := List.mem_map.mp h1
    obtain ⟨t, ht, e2⟩ := List.mem_filterMap.mp h2
    cases q3 : f t with
    | none => rw [q3] at e2; cases e2
    | some b =>
      rw [q3] at e2
      cases e2
      exact (hp (h3 ▸ ht)).elim
theorem fol_eq : folL V left free = left.filterMap fun p => ((bst V free p).map (kpr V left)).map fun b => (p, b) := by
  unfold folL
  congr 1
  funext p
  cases bst V free p <;> rfl
theorem lk_fol (hnd : left.Nodup) (hp : p ∈ left) : lk (folL V left free) p = (bst V free p).map (kpr V left) := by
  rw [fol_eq]
  exact lk_fm (f := fun p => (bst V free p).map (kpr V left)) hnd hp
theorem lk_fol_out (hp : p ∉ left) : lk (folL V left free) p = none := by
  rw [fol_eq]
  exact lk_out (f := fun p => (bst V free p).map (kpr V left)) hp
theorem lk_lok (hnd : left.Nodup) (hp : p ∈ left) : lk (lokL V left free) p = bst V free p := lk_fm (f := bst V free) hnd hp
theorem keys_fm {f : Nat → Option Nat} : (left.filterMap fun p => (f p).map fun b => (p, b)).map (·.1) = left.filter fun p => (f p).isSome := by
  induction left with
  | nil => rfl
  | cons a left ih =>
    cases q : f a with
    | none => simp [q, ih]
    | some b => simp [q, ih]
theorem fol_keys : (folL V left free).map (·.1) = left.filter fun p => (bst V free p).isSome := by
  rw [fol_eq, keys_fm (f := fun p => (bst V free p).map (kpr V left))]
  simp
theorem kpr_mem (ok : V.Ok) (hl : ∀ p ∈ left, p < V.rs.length) (hne : left ≠ []) : kpr V left c ∈ left := by
  obtain ⟨s, hs⟩ := List.exists_mem_of_ne_nil left hne
  have h2 : s ∈ V.od.filter fun p => decide (p ∈ left) := List.mem_filter.mpr ⟨ok.od.mem_iff.mpr (List.mem_range.mpr (hl s hs)), by simpa using hs⟩
  have hmem : ∀ x ∈ left.filter (fun p => decide (oat V.ow p = some c)) ++ V.od.filter (fun p => decide (p ∈ left)), x ∈ left := fun x hx => by
    rcases List.mem_append.mp hx with z | z
    · exact (List.mem_filter.mp z).1
    · simpa using (List.mem_filter.mp z).2
  unfold kpr
  cases e : left.filter (fun p => decide (oat V.ow p = some c)) ++ V.od.filter (fun p => decide (p ∈ left)) with
  | nil => rw [List.append_eq_nil_iff] at e; rw [e.2] at h2; simp at h2
  | cons a t => exact hmem a (by rw [e]; simp)
/-- somebody leaves in each turn -/
theorem go_ne (ok : V.Ok) (hnd : left.Nodup) (hl : ∀ p ∈ left, p < V.rs.length) (hne : left ≠ []) : goL V left free ≠ [] := by
  have hex : ∃ p ∈ left, lv V left free p := by
    by_cases h : ∃ p ∈ left, bst V free p = none
    · obtain ⟨p, h1, h2⟩ := h
      exact ⟨p, h1, .inl h2⟩
    · obtain ⟨p, h1, h2⟩ := cyc_ex (nx := lk (folL V left free)) hne fun p hp => by
        cases q : bst V free p with
        | none => exact (h ⟨p, hp, q⟩).elim
        | some b => exact ⟨kpr V left b, kpr_mem ok hl hne, by rw [lk_fol hnd hp, q]; rfl⟩
      exact ⟨p, h1, .inr h2⟩
  obtain ⟨p, h1, h2⟩ := hex
  exact List.ne_nil_of_mem (List.mem_filter.mpr ⟨h1, decP_iff.mpr h2⟩)
theorem cyc_left (c : Cyc (lk (folL V left free)) p) : p ∈ left ∧ ∃ b, bst V free p = some b := by
  obtain ⟨q, hq⟩ := c.ex
  have h1 := lk_key.mp (show (lk (folL V left free) p).isSome = true by rw [hq]; rfl)
  rw [fol_keys, List.mem_filter] at h1
  exact ⟨h1.1, Option.isSome_iff_exists.mp h1.2⟩
end
end K92
set_option maxRecDepth 100000
set_option maxHeartbeats 1000000
namespace K92
open PySem PySem.Spec PyProof.Rows L2 RZ DL LamX
open C8 (call_isC pe_gc InsC)
open M90
variable [TabC]
def S_keeper_of (C : Addr) : List Dat → (Dat → Prop) → Prop := fun ds P => ∃ (V : HM) (left : List Nat) (c : Nat), ds = [pHm C V, .lst (left.map nD), nD c] ∧ V.Ok ∧ (∀ p ∈ left, p < V.rs.length) ∧ left ≠ [] ∧ left.length ≤ 20 ∧ P (nD (kpr V left c))
theorem len_keeper_of {C : Addr} (ds : List Dat) (Q : Dat → Prop) (h : S_keeper_of C ds Q) : ds.length = P_keeper_of.length := by
  obtain ⟨V, l, c, rfl, _⟩ := h; rfl
theorem ix_hd {l : List Nat} {x : Nat} {P : Dat → Prop} (h : l.head? = some x) (hP : P (nD x)) : fIx (.lst (l.map nD)) (.int 0) P := by
  cases l with
  | nil => cases h
  | cons a t =>
    cases h
    exact ⟨nD x, show atI _ ((0 : Nat) : Int) = _ from atI_nat rfl, hP⟩
section
variable {P : Program} {w : World} {K : PySem.W.Frag} {mg : Str → Option Value} {base : Heap}
theorem ok_keeper_of (g : Fx K mg base) : FnOk P w K mg base L2.CX0 1 g.f_keeper_of g.fd_keeper_of P_keeper_of (spF 0 (S_keeper_of g.C_Homes)) := by
  refine okD g.F_keeper_of sc_keeper_of len_keeper_of (fun cdv A outer s H E hr => ?_)
  have nd := (sc_keeper_of).nd
  refine ⟨_, SDs.cost (sds_cons (sd_setLc (i := 3) 64 rfl nd rfl rfl (by rfl) (pid_list (pd_var (pv 1))) (blkOk_by (own := [("person", 4)]) (by kernel_rfl)) (fun _ _ _ _ _ => (pgd_name (i := 4) nd rfl (by first | exact .inl rfl | exact .inr rfl))) (fun _ _ _ _ _ => (ptsd_one (ptd_cmp (op_eqD (ru0 hr)) od_eq ((pd_ix (ix_all (ru1 hr)) od_ix ((pd_fld g.cl_Homes g.na_Homes_owned (pd_var (pv 0)))).toSh ((pd_var (pv 4))).toSh (fun _ _ => rfl))).toSh ((pd_var (pv 2))).toSh (nomark _)))) (fun _ _ _ _ _ => (pd_var (pv 4)))) (sds_cons (((sd_ret (pd_if (ptd_cmp (op_neD (ru0 hr)) od_ne ((pd_var (pv 3))).toSh ((pd_lst pad_nil)).toSh (nomark _)) (pd_ix (ix_all (ru1 hr)) od_ix ((pd_var (pv 3))).toSh (pd_int).toSh (fun _ _ => rfl)) (pd_ix (ix_all (ru1 hr)) od_ix ((pd_lc 64 rfl nd (pid_tup (pd_fld g.cl_Homes g.na_Homes_order (pd_var (pv 0)))) (blkOk_by (own := [("person", 4)]) (by kernel_rfl)) (fun _ _ _ _ _ => (pgd_name (i := 4) nd rfl (by first | exact .inl rfl | exact .inr rfl))) (fun _ _ _ _ _ => (ptsd_one (ptd_cmp (op_inA (ru hr)) od_in ((pd_var (pv 4))).toSh ((pd_var (pv 1))).toSh (by with_unfolding_all rfl)))) (fun _ _ _ _ _ => (pd_var (pv 4))))).toSh (pd_int).toSh (fun _ _ => rfl))))).frz 3) sds_nil)) (by decide), fun ds Q h => ?_⟩
  obtain ⟨V, left, c, rfl, ok, hl, hne, hll, hQ⟩ := h
  have hn := ok.wi.2.1
  have ho := ok.od.length_eq
  rw [List.length_range] at ho
  simp [pHm]
  refine lc_lst left nD (fun p => if decide (oat V.ow p = some c) = true then some (nD p) else none) (fun P h => by simpa using h) (by omega) (fun p hp R hR => ?_) ?_
  · simp
    refine Eq.mpr (fIx_out (by rw [ok.ol]; exact hl p hp)) ⟨pl_oD, ?_⟩
    rw [eqD_on]
    by_cases e : oat V.ow p = some c
    · exact .inr ⟨by simp [e], by simpa [e] using hR⟩
    · exact .inl ⟨by simp [e], by simpa [e] using hR⟩
  · rw [fm_if]
    simp
    rw [eqD_lnil]
    have hk : (left.filter (fun p => decide (oat V.ow p = some c)) ++ V.od.filter (fun p => decide (p ∈ left))).head? = some (kpr V left c) := by
      have := kpr_mem (c := c) ok hl hne
      unfold kpr at this ⊢
      cases e : left.filter (fun p => decide (oat V.ow p = some c)) ++ V.od.filter (fun p => decide (p ∈ left)) with
      | nil =>
        rw [List.append_eq_nil_iff] at e
        obtain ⟨s, hs⟩ := List.exists_mem_of_ne_nil left hne
        have h2 : s ∈ V.od.filter fun p => decide (p ∈ left) := List.mem_filter.mpr ⟨ok.od.mem_iff.mpr (List.mem_range.mpr (hl s hs)), by simpa using hs⟩
        rw [e.2] at h2
        simp at h2
      | cons a t => rfl
    cases e : left.filter (fun p => decide (oat V.ow p = some c)) with
    | cons a t =>
      rw [e] at hk
      exact .inr ⟨by simp, ix_hd (l := a :: t) (by simpa using hk) hQ⟩
    | nil =>
      rw [e, List.nil_append] at hk
      refine .inl ⟨by simp, ?_⟩
      refine lc_tup V.od nD (fun p => if decide (p ∈ left) = true then some (nD p) else none) (fun P h => by simpa [rk] using h) (by omega) (fun p hp R hR => ?_) ?_
      · simp
        by_cases e : p ∈ left
        · exact .inr ⟨e, by simpa [e] using hR⟩
        · exact .inl ⟨fun x hx z => e (z ▸ hx), by simpa [e] using hR⟩
      · rw [fm_if]
        exact ix_hd hk hQ
end
theorem find_hd {l : List Nat} {p : Nat → Bool} : (l.filter p).head? = l.find? p := by simp
theorem rows_uniq {ls : List Nat} {f : Nat → Int × List Dat} (hf : ∀ p, (f p).1 = (p : Int)) (hs : ls.Pairwise (· < ·)) {l' : List (Int × List Dat)} (hp : l'.Perm (ls.map f)) (ho : l'.Pairwise (fun y z => y.1 ≤ z.1)) : l' = ls.map f := by
  refine hp.eq_of_pairwise (le := fun y z => y.1 ≤ z.1) (fun a b ha hb h1 h2 => ?_) ho ?_
  · obtain ⟨x, _, rfl⟩ := List.mem_map.mp (hp.mem_iff.mp ha)
    obtain ⟨y, _, rfl⟩ := List.mem_map.mp hb
    rw [hf, hf] at h1 h2
    have : x = y := by omega
    rw [this]
  · refine List.pairwise_map.mpr (hs.imp fun {a b} h => ?_)
    rw [hf, hf]
    omega
theorem keys_app {l : List (Nat × Nat)} {p b : Nat} (h : p ∉ l.map (·.1)) : putD (fD l) (.inl (p : Int)) (nD b) = fD (l ++ [(p, b)]) := by
  unfold putD
  have : ((fD l).any fun kv => decide (kv.1 = (.inl (p : Int) : Key))) = false := by
    rw [List.any_eq_false]
    intro kv hkv
    obtain ⟨q, hq, rfl⟩ := List.mem_map.mp hkv
    simp
    intro e
    have e2 : q.1 = p := by omega
    exact h (List.mem_map.mpr ⟨q, hq, e2⟩)
  rw [this]
  simp [fD]
theorem noD_rings {rg : List (List Nat)} : noD (.lst (rg.map rk)) = true := by
  show noDs (rg.map rk) = true
  induction rg with
  | nil => rfl
  | cons a t ih =>
    rw [List.map_cons, noDs, ih]
    show (noDs (a.map nD) && true) = true
    rw [noDs_nD]
    rfl
theorem take1_find {l : List Nat} {q : Nat → Bool} : (l.filter q).take 1 = (l.find? q).toList := by
  induction l with
  | nil => rfl
  | cons a l ih =>
    by_cases h : q a = true
    · simp [h]
    · simp [h, ih]
theorem fm_take {f : Nat → Option Nat} {l : List Nat} {i p : Nat} (h : l[i]? = some p) : ((l.take (i + 1)).filterMap fun p => (f p).map fun b => (p, b)) = ((l.take i).filterMap fun p => (f p).map fun b => (p, b)) ++ ((f p).map fun b => (p, b)).toList := by
  rw [List.take_add_one, h, List.filterMap_append]
  cases q : f p <;> simp [q]
theorem key_fresh {f : Nat → Option Nat} {l : List Nat} {i p : Nat} (hnd : l.Nodup) (h : l[i]? = some p) : p ∉ ((l.take i).filterMap fun p => (f p).map fun b => (p, b)).map (·.1) := by
  rw [keys_fm]
  intro hm
  have h1 := (List.mem_filter.mp hm).1
  have : (l.take (i + 1)).Nodup := hnd.sublist (List.take_sublist _ _)
  rw [List.take_add_one, h, List.nodup_append] at this
  exact this.2.2 p h1 p (by simp) rfl
theorem lok_take {V : HM} {free l : List Nat} {i p : Nat} (h : l[i]? = some p) : lokL V (l.take (i + 1)) free = lokL V (l.take i) free ++ ((bst V free p).map fun b => (p, b)).toList := fm_take (f := bst V free) h
theorem fol_take {V : HM} {left free l : List Nat} {i p : Nat} (h : l[i]? = some p) : folT V left free (l.take (i + 1)) = folT V left free (l.take i) ++ (((bst V free p).map (kpr V left)).map fun b => (p, b)).toList := fm_take (f := fun p => (bst V free p).map (kpr V left)) h
theorem lok_len {V : HM} {free l : List Nat} : (fD (lokL V l free)).length ≤ l.length := by
  unfold fD lokL
  rw [List.length_map]
  exact List.length_filterMap_le _ _
theorem fol_len {V : HM} {left free l : List Nat} : (fD (folT V left free l)).length ≤ l.length := by
  unfold fD folT
  rw [List.length_map]
  exact List.length_filterMap_le _ _
def S_turn_of (C : Addr) : List Dat → (Dat → Prop) → Prop := fun ds P => ∃ (V : HM) (left free : List Nat), ds = [pHm C V, .lst (left.map nD), .lst (free.map nD)] ∧ V.Ok ∧ left.Pairwise (· < ·) ∧ (∀ p ∈ left, p < V.rs.length) ∧ left ≠ [] ∧ free.length ≤ 100 ∧ P (.lst ((turnL V left free).map rwD))
theorem len_turn_of {C : Addr} (ds : List Dat) (Q : Dat → Prop) (h : S_turn_of C ds Q) : ds.length = P_turn_of.length := by
  obtain ⟨V, l, c, rfl, _⟩ := h; rfl
def to_Iv (C : Addr) (V : HM) (left free : List Nat) (i : Nat) (ε : Ev) : Prop := ∃ x5 x6 x7 x8 x9 : Sl, ε = [.val (pHm C V), .val (.lst (left.map nD)), .val (.lst (free.map nD)), .own (.dct (fD (lokL V (left.take i) free))), .own (.dct (fD (folT V left free (left.take i)))), x5, x6, x7, x8, x9]
section
variable {P : Program} {w : World} {K : PySem.W.Frag} {mg : Str → Option Value} {base : Heap}
theorem ok_turn_of (g : Fx K mg base) : FnOk P w K mg base L2.CX0 4 g.f_turn_of g.fd_turn_of P_turn_of (spF 0 (S_turn_of g.C_Homes)) := by
  refine okC g.F_turn_of g.tc sc_turn_of len_turn_of (fun A outer s H E hr => ?_)
  have nd := (sc_turn_of).nd
  refine ⟨_, SDs.cost (sds_cons (sd_mul (xN := 0) (is := [3, 4]) (pmd_cons (m := .fr) pd_dnewK (pmd_cons (m := .fr) pd_dnewK pmd_nil)) rfl rfl rfl (pgs_cons (pg_name (i := 3) nd rfl (.inr rfl)) (pgs_cons (pg_name (i := 4) nd rfl (.inl rfl)) pgs_nil))) (sds_cons (sd_for 64 PassesOwn.never rfl (pid_list (pd_var (pv 1))) (pgd_name (i := 5) nd rfl (.inl rfl)) (sds_cons (sd_asg (i := 6) (pd_slice ((pd_lc 64 rfl nd (pid_tup (pd_meth g.cl_Homes g.me_Homes_wanted (ok_Homes_wanted g) (hr.mono (by decide)) (b_Homes_wanted g) (pd_var (pv 0)) (pad_cons (pd_var (pv 5)) pad_nil))) (blkOk_by (own := [("house", 9)]) (by kernel_rfl)) (fun _ _ _ _ _ => (pgd_name (i := 9) nd rfl (by first | exact .inl rfl | exact .inr rfl))) (fun _ _ _ _ _ => (ptsd_one (ptd_cmp (op_inA (ru hr)) od_in ((pd_var (pv 9))).toSh ((pd_var (pv 2))).toSh (by with_unfolding_all rfl)))) (fun _ _ _ _ _ => (pd_var (pv 9))))).toSh pod_none (pod_some pd_int)) nd rfl (.inl rfl)) (sds_cons (sd_if (ptd_cmp (op_neD (ru0 hr)) od_ne ((pd_var (pv 6))).toSh ((pd_lst pad_nil)).toSh (nomark _)) (sds_cons (sd_putK (ru1 hr) (pv 3) (pd_var (pv 5)) (pd_ix (ix_all (ru1 hr)) od_ix ((pd_var (pv 6))).toSh (pd_int).toSh (fun _ _ => rfl))) (sds_cons (sd_putK (ru1 hr) (pv 4) (pd_var (pv 5)) (pd_call (ok_keeper_of g) (hr.mono (by decide)) (by rfl) g.g_keeper_of g.F_keeper_of.kp (b_keeper_of g) (pad_cons (pd_var (pv 0)) (pad_cons (pd_var (pv 1)) (pad_cons (pd_ix (ix_all (ru1 hr)) od_ix ((pd_var (pv 6))).toSh (pd_int).toSh (fun _ _ => rfl)) pad_nil))))) sds_nil)) sds_nil) sds_nil))) (sds_cons (sd_setLc (i := 7) 64 rfl nd rfl rfl (by rfl) (pid_list (pd_var (pv 1))) (blkOk_by (own := [("person", 5)]) (by kernel_rfl)) (fun _ _ _ _ _ => (pgd_name (i := 5) nd rfl (by first | exact .inl rfl | exact .inr rfl))) (fun _ _ _ _ _ => (ptsd_one (ptd_cmp (op_notinA (ru hr)) od_notin ((pd_var (pv 5))).toSh (pd_varS (pv 3)) (by with_unfolding_all rfl)))) (fun _ _ _ _ _ => (pd_tup (pad_cons (pd_var (pv 5)) (pad_cons pd_non pad_nil))))) (sds_cons (sd_for 64 PassesOwn.never rfl (pid_list (pd_borD 4 (pd_call (ok_cycles_of g) (hr.mono (by decide)) (by rfl) g.g_cycles_of g.F_cycles_of.kp (b_cycles_of g) (pad_cons (pd_var (pv 4)) pad_nil)))) (pgd_name (i := 8) nd rfl (.inl rfl)) (sds_cons (sd_ext (pv 7) ((pd_lc 64 rfl nd (pid_tup (pd_var (pv 8))) (blkOk_by (own := [("person", 5)]) (by kernel_rfl)) (fun _ _ _ _ _ => (pgd_name (i := 5) nd rfl (by first | exact .inl rfl | exact .inr rfl))) (fun _ _ _ _ _ => ptsd_nil) (fun _ _ _ _ _ => (pd_tup (pad_cons (pd_var (pv 5)) (pad_cons (pd_ix (ix_all (ru1 hr)) od_ix (pd_varS (pv 3)) ((pd_var (pv 5))).toSh (fun _ _ => rfl)) pad_nil)))))).frz) sds_nil)) (sds_cons (SD.frz 7 (sd_ret (PD.frz (pd_sortK g.TB g.tb g.tq rfl (by exact ⟨rfl, rfl, rfl, by decide, rfl, by decide, by decide⟩) hr.in1.in1 (by rfl) g.b_sorted (pd_var (pv 7)))))) sds_nil))))) (by decide), fun ds Q h => ?_⟩
  obtain ⟨V, left, free, rfl, ok, hsort, hl, hne, hfl, hQ⟩ := h
  have hnd : left.Nodup := hsort.imp fun h => Nat.ne_of_lt h
  have hn := ok.wi.2.1
  have hll : left.length ≤ 20 := by have := nd_len hnd hl; omega
  simp
  refine for_mapL left nD (fun P h => by simpa using h) (by omega) (to_Iv g.C_Homes V left free) ⟨.off, .off, .off, .off, .off, rfl⟩ (fun i p ε hp ⟨x5, x6, x7, x8, x9, hε⟩ => ?_) (fun ε ⟨x5, x6, x7, x8, x9, hε⟩ => ?_)
  · subst hε
    have hpl := List.mem_of_getElem? hp
    have hw := wnt_ok ok (hl p hpl)
    have hil := (List.getElem?_eq_some_iff.mp hp).1
    simp
    refine lc_tup (wnt V p) nD (fun c => if decide (c ∈ free) = true then some (nD c) else none) (fun P h => ⟨_, rfl, _, rfl, lkH_m, _, rfl, V, p, rfl, ok, hl p hpl, h⟩) (by omega) (fun c hc R hR => ?_) ?_
    · simp
      by_cases e : c ∈ free
      · exact .inr ⟨e, by simpa [e] using hR⟩
      · exact .inl ⟨fun x hx z => e (z ▸ hx), by simpa [e] using hR⟩
    · rw [fm_if]
      have e1 : ∀ R : Dat → Prop, R (.lst ((bst V free p).toList.map nD)) → fSl (.lst (((wnt V p).filter fun c => decide (c ∈ free)).map nD)) none (some 1) R := fun R h => by
        rw [o_SlL]
        have := cutT (((wnt V p).filter fun c => decide (c ∈ free)).map nD) 1
        rw [show ((1 : Int)) = ((1 : Nat) : Int) from rfl, this, ← List.map_take, take1_find]
        exact h
      refine e1 _ ?_
      refine ⟨by simp, ?_⟩
      rw [eqD_lnil]
      cases q : bst V free p with
      | none =>
        refine .inl ⟨rfl, ?_⟩
        have e2 : lokL V (left.take (i + 1)) free = lokL V (left.take i) free := by rw [lok_take hp, q]; simp
        have e3 : folT V left free (left.take (i + 1)) = folT V left free (left.take i) := by rw [fol_take hp, q]; simp
        exact ⟨_, _, _, _, _, by rw [e2, e3]⟩
      | some b =>
        have l1 := lok_len (V := V) (free := free) (l := left.take i)
        have l2 := fol_len (V := V) (left := left) (free := free) (l := left.take i)
        have l3 : (left.take i).length ≤ 20 := by simp; omega
        have i1 : ∀ R : Dat → Prop, R (nD b) → fIx (.lst ((some b).toList.map nD)) (.int 0) R := fun R h => ix_hd (l := [b]) rfl h
        refine .inr ⟨rfl, i1 _ ⟨by omega, i1 _ ⟨V, left, b, rfl, ok, hl, hne, hll, by omega, ?_⟩⟩⟩
        have e2 : putD (fD (lokL V (left.take i) free)) (.inl (p : Int)) (nD b) = fD (lokL V (left.take (i + 1)) free) := by
          rw [lok_take hp, q]
          exact keys_app (key_fresh (f := bst V free) hnd hp)
        have e3 : putD (fD (folT V left free (left.take i))) (.inl (p : Int)) (nD (kpr V left b)) = fD (folT V left free (left.take (i + 1))) := by
          rw [fol_take hp, q]
          exact keys_app (key_fresh (f := fun p => (bst V free p).map (kpr V left)) hnd hp)
        exact ⟨_, _, _, _, _, by rw [e2, e3]⟩
  · subst hε
    rw [List.take_length]
    have hfol : folT V left free left = folL V left free := fol_eq.symm
    have hkeys : ((folT V left free left).map (·.1)).Nodup := by rw [hfol, fol_keys]; exact hnd.filter _
    have l2 := fol_len (V := V) (left := left) (free := free) (l := left)
    simp
    refine lc_lst left nD (fun p => if (bst V free p).isNone = true then some (rwD (p, bst V free p)) else none) (fun P h => by simpa using h) (by omega) (fun p hp R hR => ?_) ?_
    · simp
      refine ⟨_, rfl, ?_⟩
      rw [look_fD, lk_lok hnd hp]
      cases q : bst V free p with
      | none => exact .inr ⟨rfl, by simpa [q, rwD, oD] using hR⟩
      | some b => exact .inl ⟨rfl, by simpa [q] using hR⟩
    · rw [fm_if]
      refine for_L ⟨_, rfl, rfl, _, rfl, folT V left free left, rfl, hkeys, by simp [fD] at l2; omega, fun rg h1 h2 h3 => ⟨noD_rings, ?_⟩⟩
      rw [hfol] at h2
      have hfl : rg.flatten.length ≤ 20 := by
        have := List.Nodup.length_le_of_subset h1 (l₂ := left) fun x hx => (cyc_left ((h2 x).mp hx)).1
        omega
      have hpre : ∀ j, (rg.take j).flatten.length ≤ 20 := fun j => by
        have := flat_pre (fun x : List Nat => x) rg j
        simp only [List.flatMap_id'] at this
        omega
      have hno : (left.filter fun p => (bst V free p).isNone).length ≤ 20 := Nat.le_trans (List.length_filter_le _ _) hll
      refine for_mapL rg rk (fun P h => h) (by omega) (fun j ε => ∃ x5 x6 x8 x9 : Sl, ε = [.val (pHm g.C_Homes V), .val (.lst (left.map nD)), .val (.lst (free.map nD)), .own (.dct (fD (lokL V left free))), .own (.dct (fD (folT V left free left))), x5, x6,
        .own (.lst (((left.filter fun p => (bst V free p).isNone) ++ (rg.take j).flatten).map fun p => rwD (p, bst V free p))), x8, x9]) ⟨x5, x6, x8, x9, by simp⟩ (fun j r ε hr ⟨x5, x6, x8, x9, hε⟩ => ?_) (fun ε ⟨x5, x6, x8, x9, hε⟩ => ?_)
      · subst hε
        have hrr := List.mem_of_getElem? hr
        have hcy : ∀ p ∈ r, p ∈ left ∧ ∃ b, bst V free p = some b := fun p hp => cyc_left ((h2 p).mp (List.mem_flatten.mpr ⟨r, hrr, hp⟩))
        have hjl : (rg.take (j + 1)).flatten = (rg.take j).flatten ++ r := by rw [List.take_add_one, hr]; simp
        have hrl : r.length ≤ 20 := by
          have := hpre (j + 1)
          rw [hjl, List.length_append] at this
          omega
        simp
        refine lc_tup r nD (fun p => some (rwD (p, bst V free p))) (fun P h => ⟨_, rfl, h⟩) (by omega) (fun p hp R hR => ?_) ?_
        · obtain ⟨hpl, b, hb⟩ := hcy p hp
          simp
          refine ⟨nD b, by rw [look_fD, lk_lok hnd hpl, hb]; rfl, ?_⟩
          simpa [rwD, hb, oD] using hR
        · rw [fm_map]
          have l5 := hpre j
          simp at l5
          refine ⟨_, rfl, ?_, ?_⟩
          · have ec : (List.length ∘ List.map fun p => rwD (p, bst V free p)) = (List.length : List Nat → Nat) := by funext x; simp
            rw [ec, List.length_map]
            omega
          · rw [List.take_add_one, List.getElem?_map, hr]
            simp
      · subst hε
        rw [List.take_length]
        simp
        have hperm : ((left.filter fun p => (bst V free p).isNone) ++ rg.flatten).Perm (goL V left free) := by
          refine (List.perm_ext_iff_of_nodup ?_ (hnd.filter _)).mpr fun p => ?_
          · rw [List.nodup_append]
            refine ⟨hnd.filter _, h1, fun a ha b hb e => ?_⟩
            subst e
            obtain ⟨_, b, hb2⟩ := cyc_left ((h2 a).mp hb)
            have := (List.mem_filter.mp ha).2
            rw [hb2] at this
            cases this
          · rw [List.mem_append, List.mem_filter, List.mem_filter, decP_iff, h2 p]
            unfold lv
            constructor
            · rintro (⟨a, b⟩ | c)
              · exact ⟨a, .inl (by simpa using b)⟩
              · exact ⟨(cyc_left c).1, .inr c⟩
            · rintro ⟨a, b | c⟩
              · exact .inl ⟨a, by simp [b]⟩
              · exact .inr c
        have hlen := hperm.length_eq
        have hgl : (goL V left free).length ≤ 20 := Nat.le_trans (List.length_filter_le _ _) hll
        refine ⟨((left.filter fun p => (bst V free p).isNone) ++ rg.flatten).map fun (p : Nat) => ((p : Int), [oD (bst V free p)]), by simp [rowD, rwD, Function.comp_def, nD], by rw [List.length_map, hlen]; omega, fun l' hp ho => ?_⟩
        have e := rows_uniq (ls := goL V left free) (f := fun (p : Nat) => ((p : Int), [oD (bst V free p)])) (fun _ => rfl) (hsort.filter _) (hp.trans (hperm.map _)) ho
        rw [e]
        have e2 : ((goL V left free).map fun (p : Nat) => ((p : Int), [oD (bst V free p)])).map rowD = (turnL V left free).map rwD := by simp [turnL, rowD, rwD, Function.comp_def, nD]
        rw [e2]
        exact hQ
end
end K92
set_option maxRecDepth 100000
set_option maxHeartbeats 1000000
namespace K92
open PySem PySem.Spec PyProof.Rows L2 RZ DL LamX
open C8 (call_isC pe_gc InsC)
open M90
variable [TabC]
def rowsD (t : List (Nat × Option Nat)) : Dat := .lst (t.map rwD)
noncomputable def allT (V : HM) : List (List (Nat × Option Nat)) := turnsF V V.rs.length (List.range V.rs.length) (List.range V.hs)
theorem fIn_lo {neg : Bool} {r : Nat} {o : List (Option Nat)} {P : Dat → Prop} (h : P (.bl (neg != decide (some r ∈ o)))) : fIn neg (nD r) (.lst (o.map oD)) P := by
  refine ⟨by simp, by simp, ?_⟩
  rw [any_oD]
  exact h
theorem turn_gone {V : HM} {left free : List Nat} : (turnL V left free).map (·.1) = goL V left free := by simp [turnL, Function.comp_def]
def S_turns_of (C : Addr) : List Dat → (Dat → Prop) → Prop := fun ds P => ∃ (V : HM), ds = [pHm C V] ∧ V.Ok ∧ P (.lst ((allT V).map rowsD))
theorem len_turns_of {C : Addr} (ds : List Dat) (Q : Dat → Prop) (h : S_turns_of C ds Q) : ds.length = P_turns_of.length := by
  obtain ⟨V, rfl, _⟩ := h; rfl
section
variable {P : Program} {w : World} {K : PySem.W.Frag} {mg : Str → Option Value} {base : Heap}
theorem ok_turns_of (g : Fx K mg base) : FnOk P w K mg base L2.CX0 5 g.f_turns_of g.fd_turns_of P_turns_of (spF 0 (S_turns_of g.C_Homes)) := by
  refine okD g.F_turns_of sc_turns_of len_turns_of (fun cdv A outer s H E hr => ?_)
  have nd := (sc_turns_of).nd
  refine ⟨_, SDs.cost (sds_cons (sd_par3 (ms := []) (i := 1) (j := 2) (l := 3) (pmd_cons (m := .rep) ((pd_lrange1 rfl (by rfl) g.b_list (by rfl) g.b_range (pd_callB call_lenA cd_len (by rfl) g.b_len boot_len (phd_cons ((pd_fld g.cl_Homes g.na_Homes_rankings (pd_var (pv 0)))).toSh phd_nil)))).frz (pmd_cons (m := .rep) ((pd_lrange1 rfl (by rfl) g.b_list (by rfl) g.b_range (pd_fld g.cl_Homes g.na_Homes_houses (pd_var (pv 0))))).frz (pmd_cons (m := .fr) (pd_lst pad_nil) pmd_nil))) rfl rfl nd rfl rfl rfl (by decide) (by decide) (by decide) rfl rfl rfl (by rfl)) (sds_cons (sd_while 64 PassesOwn.never (ptd_cmp (op_neD (ru0 hr)) od_ne ((pd_var (pv 1))).toSh ((pd_lst pad_nil)).toSh (nomark _)) (sds_cons (sd_asg (i := 4) (pd_call (ok_turn_of g) (hr.mono (by decide)) (by rfl) g.g_turn_of g.F_turn_of.kp (b_turn_of g) (pad_cons (pd_var (pv 0)) (pad_cons (pd_var (pv 1)) (pad_cons (pd_var (pv 2)) pad_nil)))) nd rfl (.inl rfl)) (sds_cons (sd_app (pv 3) (pd_var (pv 4))) (sds_cons (sd_mul (xN := 0) (is := [5, 6]) (pmd_cons (m := .rep) ((pd_lc 64 rfl nd (pid_list (pd_var (pv 4))) (blkOk_by (own := [("person", 7), ("_", 9)]) (by kernel_rfl)) (fun _ _ _ _ _ => (pgd_tup (n := 2) rfl (pgsd_cons (pgd_name (i := 7) nd rfl (by first | exact .inl rfl | exact .inr rfl)) (pgsd_cons (pgd_name (i := 9) nd rfl (by first | exact .inl rfl | exact .inr rfl)) pgsd_nil)))) (fun _ _ _ _ _ => ptsd_nil) (fun _ _ _ _ _ => (pd_var (pv 7))))).frz (pmd_cons (m := .rep) ((pd_lc 64 rfl nd (pid_list (pd_var (pv 4))) (blkOk_by (own := [("_", 9), ("house", 8)]) (by kernel_rfl)) (fun _ _ _ _ _ => (pgd_tup (n := 2) rfl (pgsd_cons (pgd_name (i := 9) nd rfl (by first | exact .inl rfl | exact .inr rfl)) (pgsd_cons (pgd_name (i := 8) nd rfl (by first | exact .inl rfl | exact .inr rfl)) pgsd_nil)))) (fun _ _ _ _ _ => ptsd_nil) (fun _ _ _ _ _ => (pd_var (pv 8))))).frz pmd_nil)) rfl rfl rfl (pgs_cons (pg_name (i := 5) nd rfl (.inr rfl)) (pgs_cons (pg_name (i := 6) nd rfl (.inr rfl)) pgs_nil))) (sds_cons (sd_setLc (i := 1) 64 rfl nd rfl rfl (by rfl) (pid_list (pd_var (pv 1))) (blkOk_by (own := [("person", 7)]) (by kernel_rfl)) (fun _ _ _ _ _ => (pgd_name (i := 7) nd rfl (by first | exact .inl rfl | exact .inr rfl))) (fun _ _ _ _ _ => (ptsd_one (ptd_cmp (op_notinA (ru hr)) od_notin ((pd_var (pv 7))).toSh ((pd_var (pv 5))).toSh (by with_unfolding_all rfl)))) (fun _ _ _ _ _ => (pd_var (pv 7)))) (sds_cons (((((sd_setLc (i := 2) 64 rfl nd rfl rfl (by rfl) (pid_list (pd_var (pv 2))) (blkOk_by (own := [("house", 8)]) (by kernel_rfl)) (fun _ _ _ _ _ => (pgd_name (i := 8) nd rfl (by first | exact .inl rfl | exact .inr rfl))) (fun _ _ _ _ _ => (ptsd_one (ptd_cmp (op_notinA (ru hr)) od_notin ((pd_var (pv 8))).toSh ((pd_var (pv 6))).toSh (by with_unfolding_all rfl)))) (fun _ _ _ _ _ => (pd_var (pv 8))))).frz 1)).aft 2) sds_nil)))))) (sds_cons (((sd_ret (pd_var (pv 3)))).frz 3) sds_nil))) (by decide), fun ds Q h => ?_⟩
  obtain ⟨V, rfl, ok, hQ⟩ := h
  have hn := ok.wi.2.1
  have h20 := ok.h20
  simp [pHm]
  refine ⟨by omega, by omega, ?_⟩
  refine ⟨fun m ε => ∃ (left free : List Nat) (k : Nat) (dn : List (List (Nat × Option Nat))) (x4 x5 x6 x7 x8 x9 : Sl), ε = [.val (.obj g.C_Homes (fsH V)), .val (.lst (left.map nD)), .val (.lst (free.map nD)), .own (.lst (dn.map rowsD)), x4, x5, x6, x7, x8, x9] ∧
    left.Pairwise (· < ·) ∧ (∀ p ∈ left, p < V.rs.length) ∧ free.length ≤ 20 ∧ left.length ≤ k ∧ dn ++ turnsF V k left free = allT V ∧ dn.length + k ≤ V.rs.length ∧ m = left.length,
    ⟨V.rs.length, by omega, List.range V.rs.length, List.range V.hs, V.rs.length, [], .off, .off, .off, .off, .off, .off, by rw [rng0, rng0]; rfl, List.pairwise_lt_range, fun p hp => List.mem_range.mp hp, by simpa using h20, by simp, rfl, by simp, by simp⟩, fun m ε ⟨left, free, k, dn, x4, x5, x6, x7, x8, x9, hε, hsort, hl, hfl, hk, hT, hdn, hm⟩ => ?_⟩
  subst hε
  have hnd : left.Nodup := hsort.imp fun h => Nat.ne_of_lt h
  have hll : left.length ≤ 20 := by have := nd_len hnd hl; omega
  simp
  rw [eqD_lnil]
  by_cases hne : left = []
  · subst hne
    refine .inl ⟨by simp, ?_⟩
    have e : turnsF V k [] free = [] := by cases k <;> simp [turnsF]
    rw [e, List.append_nil] at hT
    rw [hT]
    exact hQ
  · refine .inr ⟨by simp [hne], ?_⟩
    refine ⟨V, left, free, rfl, ok, hsort, hl, hne, by omega, by omega, ?_⟩
    have hgl : (goL V left free).length ≤ 20 := Nat.le_trans (List.length_filter_le _ _) hll
    have htl : (turnL V left free).length ≤ 20 := by simpa [turnL] using hgl
    refine lc_lst (turnL V left free) rwD (fun q => some (nD q.1)) (fun P h => ⟨_, rfl, h⟩) (by omega) (fun q hq R hR => ?_) ?_
    · simp [rwD]
      exact hR
    rw [fm_map]
    refine lc_lst (turnL V left free) rwD (fun q => some (oD q.2)) (fun P h => ⟨_, rfl, h⟩) (by omega) (fun q hq R hR => ?_) ?_
    · simp [rwD]
      exact hR
    rw [fm_map]
    have e1 : (turnL V left free).map (fun q => nD q.1) = (goL V left free).map nD := by rw [← turn_gone, List.map_map]; rfl
    have e2 : (turnL V left free).map (fun q => oD q.2) = ((turnL V left free).map (·.2)).map oD := by rw [List.map_map]; rfl
    rw [e1, e2]
    refine lc_lst left nD (fun p => if (!decide (p ∈ goL V left free)) = true then some (nD p) else none) (fun P h => ⟨_, rfl, h⟩) (by omega) (fun p hp R hR => ?_) ?_
    · simp
      by_cases e : p ∈ goL V left free
      · exact .inl ⟨e, by simpa [e] using hR⟩
      · exact .inr ⟨fun x hx z => e (z ▸ hx), by simpa [e] using hR⟩
    rw [fm_if]
    generalize ht : (turnL V left free).map (fun x => x.2) = tk
    refine lc_lst free nD (fun c => if (!decide (some c ∈ tk)) = true then some (nD c) else none) (fun P h => ⟨_, rfl, h⟩) (by omega) (fun c hc R hR => ?_) ?_
    · simp
      by_cases e : some c ∈ tk
      · exact .inl ⟨e, by simpa [e] using hR⟩
      · exact .inr ⟨fun x hx z => e (z ▸ hx), by simpa [e] using hR⟩
    rw [fm_if]
    simp
    obtain ⟨k', rfl⟩ : ∃ k', k = k' + 1 := ⟨k - 1, by
      have : 0 < left.length := List.length_pos_iff.mpr hne
      omega⟩
    have hgo := go_ne (free := free) ok hnd hl hne
    have hlt : (left.filter fun p => !decide (p ∈ goL V left free)).length < left.length := by
      obtain ⟨p, hp⟩ := List.exists_mem_of_ne_nil _ hgo
      have hpl := (List.mem_filter.mp hp).1
      rcases Nat.lt_or_ge (left.filter fun p => !decide (p ∈ goL V left free)).length left.length with z | z
      · exact z
      · have e := (List.filter_sublist (l := left) (p := fun p => !decide (p ∈ goL V left free))).eq_of_length_le z
        rw [← e] at hpl
        have := (List.mem_filter.mp hpl).2
        simp [hp] at this
    refine ⟨(left.filter fun p => !decide (p ∈ goL V left free)).length, by omega, left.filter fun p => !decide (p ∈ goL V left free), free.filter fun c => !decide (some c ∈ tk), k', dn ++ [turnL V left free], ⟨by simp, by simp, by simp [rowsD]⟩, hsort.filter _, fun p hp => hl p (List.mem_filter.mp hp).1, Nat.le_trans (List.length_filter_le _ _) hfl, by omega, ?_, by simp; omega, rfl⟩
    rw [← hT]
    have e9 : turnsF V (k' + 1) left free = turnL V left free :: turnsF V k' (left.filter fun p => !decide (p ∈ goL V left free)) (free.filter fun c => !decide (some c ∈ tk)) := by
      rw [← ht]
      simp [turnsF, hne]
    rw [e9]
    simp
end
def S_turns (C : Addr) : List Dat → (Dat → Prop) → Prop := fun ds P => ∃ (V : HM), ds = [pHm C V] ∧ V.Ok ∧ P (.lst ((allT V).map rowsD))
theorem len_turns {C : Addr} (ds : List Dat) (Q : Dat → Prop) (h : S_turns C ds Q) : ds.length = P_turns.length := by
  obtain ⟨V, rfl, _⟩ := h; rfl
section
variable {P : Program} {w : World} {K : PySem.W.Frag} {mg : Str → Option Value} {base : Heap}
theorem ok_turns (g : Fx K mg base) : FnOk P w K mg base L2.CX0 6 g.f_turns g.fd_turns P_turns (spF 0 (S_turns g.C_Homes)) := by
  refine okD g.F_turns sc_turns len_turns (fun cdv A outer s H E hr => ?_)
  have nd := (sc_turns).nd
  refine ⟨_, SDs.cost (sds_cons (sd_drop (pd_call (ok_check_homes g) (hr.mono (by decide)) (by rfl) g.g_check_homes g.F_check_homes.kp (b_check_homes g) (pad_cons (pd_var (pv 0)) pad_nil))) (sds_cons (sd_ret (pd_call (ok_turns_of g) (hr.mono (by decide)) (by rfl) g.g_turns_of g.F_turns_of.kp (b_turns_of g) (pad_cons (pd_var (pv 0)) pad_nil))) sds_nil)) (by decide), fun ds Q h => ?_⟩
  obtain ⟨V, rfl, ok, hQ⟩ := h
  simp [pHm]
  exact ⟨_, rfl, V, rfl, ok, hQ⟩
end
end K92
set_option maxRecDepth 100000
set_option maxHeartbeats 2000000
/-! H3: what all turns give. -/
namespace K92
open PySem PySem.Spec PyProof.Rows L2 RZ DL M90
variable [TabC]
theorem ixo_cons {a c : Nat} {l : List Nat} (h : a ≠ c) : ixo (a :: l) c = ixo l c + 1 := by
  simp [ixo, List.idxOf_cons, beq_eq_false_iff_ne.mpr h]
theorem ixo_hd {a : Nat} {l : List Nat} : ixo (a :: l) a = 0 := by simp [ixo, List.idxOf_cons]
theorem find_ixo {q : Nat → Bool} : ∀ {l : List Nat} {b : Nat}, l.find? q = some b → b ∈ l ∧ q b = true ∧ ∀ c ∈ l, ixo l c < ixo l b → q c = false
  | [], b, h => by cases h
  | a :: l, b, h => by
    rw [List.find?_cons] at h
    cases e : q a with
    | true =>
      rw [e] at h
      cases h
      exact ⟨by simp, e, fun c _ lt => by rw [ixo_hd] at lt; omega⟩
    | false =>
      rw [e] at h
      obtain ⟨h1, h2, h3⟩ := find_ixo h
      have nb : a ≠ b := fun z => by rw [z, h2] at e; cases e
      refine ⟨by simp [h1], h2, fun c hc lt => ?_⟩
      by_cases z : a = c
      · rw [← z]; exact e
      · rw [ixo_cons z, ixo_cons nb] at lt
        refine h3 c ?_ (by omega)
        rcases List.mem_cons.mp hc with y | y
        · exact (z y.symm).elim
        · exact y
section
variable {V : HM} {left free : List Nat} {p q c : Nat} {b : Option Nat}
theorem bst_some (h : bst V free p = some c) : c ∈ wnt V p ∧ c ∈ free ∧ ∀ d ∈ wnt V p, ixo (wnt V p) d < ixo (wnt V p) c → d ∉ free := by
  obtain ⟨h1, h2, h3⟩ := find_ixo h
  exact ⟨h1, by simpa using h2, fun d hd lt => by simpa using h3 d hd lt⟩
theorem bst_none (h : bst V free p = none) : ∀ d ∈ wnt V p, d ∉ free := fun d hd => by
  unfold bst at h
  rw [List.find?_eq_none] at h
  simpa using h d hd
theorem mem_turn : (p, b) ∈ turnL V left free ↔ p ∈ left ∧ lv V left free p ∧ b = bst V free p := by
  unfold turnL goL
  rw [List.mem_map]
  constructor
  · rintro ⟨x, hx, e⟩
    cases e
    obtain ⟨h1, h2⟩ := List.mem_filter.mp hx
    exact ⟨h1, decP_iff.mp h2, rfl⟩
  · rintro ⟨h1, h2, rfl⟩
    exact ⟨p, List.mem_filter.mpr ⟨h1, decP_iff.mpr h2⟩, rfl⟩
theorem mem_go : p ∈ goL V left free ↔ p ∈ left ∧ lv V left free p := by
  unfold goL
  rw [List.mem_filter, decP_iff]
theorem lv_cyc (h : lv V left free p) (e : bst V free p = some c) : Cyc (lk (folL V left free)) p := by
  rcases h with h | h
  · rw [h] at e; cases e
  · exact h
/-- in one turn each house goes once -/
theorem turn_one (hnd : left.Nodup) (h1 : (p, some c) ∈ turnL V left free) (h2 : (q, some c) ∈ turnL V left free) : p = q := by
  obtain ⟨a1, a2, a3⟩ := mem_turn.mp h1
  obtain ⟨b1, b2, b3⟩ := mem_turn.mp h2
  refine cyc_inj (lv_cyc a2 a3.symm) (lv_cyc b2 b3.symm) (r := kpr V left c) ?_ ?_
  · rw [lk_fol hnd a1, ← a3]; rfl
  · rw [lk_fol hnd b1, ← b3]; rfl
/-- the state between two turns -/
structure Stt (V : HM) (left free : List Nat) : Prop where
  nd : left.Nodup
  lt : ∀ p ∈ left, p < V.rs.length
  own : ∀ p ∈ left, ∀ o, oat V.ow p = some o → o ∈ free
theorem kpr_own (ok : V.Ok) (s : Stt V left free) (hp : p ∈ left) (ho : oat V.ow p = some c) : kpr V left c = p := by
  have hm : p ∈ left.filter fun p => decide (oat V.ow p = some c) := List.mem_filter.mpr ⟨hp, by simpa using ho⟩
  unfold kpr
  cases e : left.filter (fun p => decide (oat V.ow p = some c)) with
  | nil => rw [e] at hm; simp at hm
  | cons a t =>
    have ha : a ∈ left.filter fun p => decide (oat V.ow p = some c) := by rw [e]; simp
    have := (List.mem_filter.mp ha).2
    exact ok.o1 p a c ho (by simpa using this)
def lft (V : HM) (left free : List Nat) : List Nat := left
noncomputable def lft' (V : HM) (left free : List Nat) : List Nat := left.filter fun p => !decide (p ∈ goL V left free)
noncomputable def fre' (V : HM) (left free : List Nat) : List Nat := free.filter fun c => !decide (some c ∈ (turnL V left free).map (·.2))
theorem mem_lft : p ∈ lft' V left free ↔ p ∈ left ∧ p ∉ goL V left free := by
  unfold lft'
  rw [List.mem_filter]
  simp
theorem mem_fre : c ∈ fre' V left free ↔ c ∈ free ∧ ∀ q, (q, some c) ∉ turnL V left free := by
  unfold fre'
  rw [List.mem_filter]
  simp
theorem Stt.next (ok : V.Ok) (s : Stt V left free) : Stt V (lft' V left free) (fre' V left free) where
  nd := s.nd.filter _
  lt := fun p hp => s.lt p (mem_lft.mp hp).1
  own := fun p hp o ho => by
    obtain ⟨h1, h2⟩ := mem_lft.mp hp
    refine mem_fre.mpr ⟨s.own p h1 o ho, fun q hq => h2 ?_⟩
    obtain ⟨a1, a2, a3⟩ := mem_turn.mp hq
    have cq := lv_cyc a2 a3.symm
    have e : lk (folL V left free) q = some p := by
      rw [lk_fol s.nd a1, ← a3]
      show some (kpr V left o) = some p
      rw [kpr_own ok s h1 ho]
    exact mem_go.mpr ⟨h1, .inr (cq.next e)⟩
theorem turnsF_succ {k : Nat} (h : left ≠ []) : turnsF V (k + 1) left free = turnL V left free :: turnsF V k (lft' V left free) (fre' V left free) := by
  simp [turnsF, h, lft', fre']
theorem turnsF_nil {k : Nat} : turnsF V k [] free = [] := by cases k <;> simp [turnsF]
theorem lft_len (ok : V.Ok) (s : Stt V left free) (h : left ≠ []) : (lft' V left free).length < left.length := by
  have hgo := go_ne (free := free) ok s.nd s.lt h
  obtain ⟨p, hp⟩ := List.exists_mem_of_ne_nil _ hgo
  have hpl := (mem_go.mp hp).1
  rcases Nat.lt_or_ge (lft' V left free).length left.length with z | z
  · exact z
  · have e := (List.filter_sublist (l := left) (p := fun p => !decide (p ∈ goL V left free))).eq_of_length_le z
    have : p ∈ lft' V left free := by
      unfold lft'
      rw [e]
      exact hpl
    exact ((mem_lft.mp this).2 hp).elim
/-- all turns from a state -/
structure Run (V : HM) (left free : List Nat) (T : List (List (Nat × Option Nat))) : Prop where
  nd : (T.flatten.map (·.1)).Nodup
  mem : ∀ p, p ∈ T.flatten.map (·.1) ↔ p ∈ left
  gets : ∀ p c, (p, some c) ∈ T.flatten → c ∈ wnt V p ∧ c ∈ free
  one : ∀ p q c, (p, some c) ∈ T.flatten → (q, some c) ∈ T.flatten → p = q
  own : ∀ p o, oat V.ow p = some o → (p, none) ∉ T.flatten
  early : ∀ (i : Nat) (t : List (Nat × Option Nat)) (p : Nat) (b : Option Nat) (c : Nat), T[i]? = some t → (p, b) ∈ t → c ∈ wnt V p → c ∈ free → (∀ d, b = some d → ixo (wnt V p) c < ixo (wnt V p) d) → ∃ (j : Nat) (t' : List (Nat × Option Nat)) (q : Nat), j < i ∧ T[j]? = some t' ∧ (q, some c) ∈ t'
theorem run_all (ok : V.Ok) : ∀ (k : Nat) (left free : List Nat), Stt V left free → left.length ≤ k → Run V left free (turnsF V k left free)
  | 0, left, free, s, hk => by
    have : left = [] := List.eq_nil_of_length_eq_zero (by omega)
    subst this
    exact ⟨by simp [turnsF], by simp [turnsF], by simp [turnsF], by simp [turnsF], by simp [turnsF], fun i t p b c h => by simp [turnsF] at h⟩
  | k + 1, left, free, s, hk => by
    by_cases hne : left = []
    · subst hne
      rw [turnsF_nil]
      exact ⟨by simp, by simp, by simp, by simp, by simp, fun i t p b c h => by simp at h⟩
    · rw [turnsF_succ hne]
      have hlt := lft_len ok s hne
      have r := run_all ok k (lft' V left free) (fre' V left free) (s.next ok) (by omega)
      generalize turnsF V k (lft' V left free) (fre' V left free) = T at r
      have fst : (turnL V left free).map (·.1) = goL V left free := turn_gone
      have up : ∀ {p b}, (p, b) ∈ T.flatten → p ∈ left ∧ p ∉ goL V left free := fun {p b} h => mem_lft.mp ((r.mem p).mp (List.mem_map.mpr ⟨(p, b), h, rfl⟩))
      refine ⟨?_, fun p => ?_, fun p c h => ?_, fun p q c h1 h2 => ?_, fun p o ho h => ?_, fun i t p b c hi hp hc hf hb => ?_⟩
      · rw [List.flatten_cons, List.map_append, List.nodup_append, fst]
        refine ⟨s.nd.filter _, r.nd, fun a ha d hd e => ?_⟩
        subst e
        exact (mem_lft.mp ((r.mem a).mp hd)).2 ha
      · rw [List.flatten_cons, List.map_append, List.mem_append, fst, r.mem p, mem_lft]
        constructor
        · rintro (h | h)
          · exact (mem_go.mp h).1
          · exact h.1
        · intro h
          by_cases z : p ∈ goL V left free
          · exact .inl z
          · exact .inr ⟨h, z⟩
      · rw [List.flatten_cons, List.mem_append] at h
        rcases h with h | h
        · obtain ⟨_, _, e⟩ := mem_turn.mp h
          have := bst_some e.symm
          exact ⟨this.1, this.2.1⟩
        · obtain ⟨a, b⟩ := r.gets p c h
          exact ⟨a, (mem_fre.mp b).1⟩
      · rw [List.flatten_cons, List.mem_append] at h1 h2
        rcases h1 with h1 | h1 <;> rcases h2 with h2 | h2
        · exact turn_one s.nd h1 h2
        · exact ((mem_fre.mp (r.gets q c h2).2).2 p h1).elim
        · exact ((mem_fre.mp (r.gets p c h1).2).2 q h2).elim
        · exact r.one p q c h1 h2
      · rw [List.flatten_cons, List.mem_append] at h
        rcases h with h | h
        · obtain ⟨h1, _, e⟩ := mem_turn.mp h
          exact bst_none e.symm o ((wnt_ok ok (s.lt p h1)).2.2.2 o ho) (s.own p h1 o ho)
        · exact r.own p o ho h
      · cases i with
        | zero =>
          cases hi
          obtain ⟨h1, _, e⟩ := mem_turn.mp hp
          cases b with
          | none => exact (bst_none e.symm c hc hf).elim
          | some d => exact ((bst_some e.symm).2.2 c hc (hb d rfl) hf).elim
        | succ i =>
          have hi' : T[i]? = some t := by simpa using hi
          by_cases z : c ∈ fre' V left free
          · obtain ⟨j, t', q, a1, a2, a3⟩ := r.early i t p b c hi' hp hc z hb
            exact ⟨j + 1, t', q, by omega, by simpa using a2, a3⟩
          · have : ∃ q, (q, some c) ∈ turnL V left free := Classical.byContradiction fun hn => z (mem_fre.mpr ⟨hf, fun q hq => hn ⟨q, hq⟩⟩)
            obtain ⟨q, hq⟩ := this
            exact ⟨0, _, q, by omega, rfl, hq⟩
theorem run_V (ok : V.Ok) : Run V (List.range V.rs.length) (List.range V.hs) (allT V) := run_all ok _ _ _ ⟨List.nodup_range, fun p hp => List.mem_range.mp hp, fun p hp o ho => List.mem_range.mpr (ok.oh p o ho)⟩ (by simp)
end
end K92
set_option maxRecDepth 100000
set_option maxHeartbeats 1000000
namespace K92
open PySem PySem.Spec PyProof.Rows L2 RZ DL LamX
open C8 (call_isC pe_gc InsC)
open M90
variable [TabC]
/-- what some rows give -/
def Gvn (n : Nat) (pre : List (Nat × Option Nat)) (f : List (Option Nat)) : Prop := f.length = n ∧ (∀ p b, (p, b) ∈ pre → oat f p = b) ∧ ∀ p, p ∉ pre.map (·.1) → oat f p = none
theorem Gvn.more {n : Nat} {pre : List (Nat × Option Nat)} {f : List (Option Nat)} {p : Nat} {b : Option Nat} (h : Gvn n pre f) (hp : p < n) (hn : p ∉ pre.map (·.1)) : Gvn n (pre ++ [(p, b)]) (f.set p b) := by
  obtain ⟨h1, h2, h3⟩ := h
  refine ⟨by simpa using h1, fun q d hq => ?_, fun q hq => ?_⟩
  · rcases List.mem_append.mp hq with z | z
    · have nq : q ≠ p := fun e => hn (List.mem_map.mpr ⟨(q, d), z, e⟩)
      rw [oat_set_ne nq]
      exact h2 q d z
    · have e := List.mem_singleton.mp z
      cases e
      rw [oat_set_same (by omega)]
  · rw [List.map_append, List.mem_append] at hq
    have nq : q ≠ p := fun e => hq (.inr (by simp [e]))
    rw [oat_set_ne nq]
    exact h3 q fun z => hq (.inl z)
def S_housed (C : Addr) : List Dat → (Dat → Prop) → Prop := fun ds P => ∃ (V : HM), ds = [pHm C V] ∧ V.Ok ∧ ∀ x, Gvn V.rs.length (allT V).flatten x → P (outD x)
theorem len_housed {C : Addr} (ds : List Dat) (Q : Dat → Prop) (h : S_housed C ds Q) : ds.length = P_housed.length := by
  obtain ⟨V, rfl, _⟩ := h; rfl
theorem turns_len {V : HM} (ok : V.Ok) : ∀ {k : Nat} {left free : List Nat}, (turnsF V k left free).length ≤ k
  | 0, _, _ => by simp [turnsF]
  | k + 1, left, free => by
    unfold turnsF
    split
    · simp
    · rw [List.length_cons]
      have := turns_len ok (k := k) (left := left.filter fun p => !decide (p ∈ goL V left free)) (free := free.filter fun c => !decide (some c ∈ (turnL V left free).map (·.2)))
      omega
section
variable {P : Program} {w : World} {K : PySem.W.Frag} {mg : Str → Option Value} {base : Heap}
theorem ok_housed (g : Fx K mg base) : FnOk P w K mg base L2.CX0 6 g.f_housed g.fd_housed P_housed (spF 0 (S_housed g.C_Homes)) := by
  refine okD g.F_housed sc_housed len_housed (fun cdv A outer s H E hr => ?_)
  have nd := (sc_housed).nd
  refine ⟨_, SDs.cost (sds_cons (sd_drop (pd_call (ok_check_homes g) (hr.mono (by decide)) (by rfl) g.g_check_homes g.F_check_homes.kp (b_check_homes g) (pad_cons (pd_var (pv 0)) pad_nil))) (sds_cons (sd_asgO (i := 1) (pd_op op_rep od_repL ((pd_lst (pad_cons pd_non pad_nil))).toSh ((pd_callB call_lenA cd_len (by rfl) g.b_len boot_len (phd_cons ((pd_fld g.cl_Homes g.na_Homes_rankings (pd_var (pv 0)))).toSh phd_nil))).toSh) nd rfl (.inl rfl)) (sds_cons (sd_for 64 PassesOwn.never rfl (pid_list (pd_call (ok_turns_of g) (hr.mono (by decide)) (by rfl) g.g_turns_of g.F_turns_of.kp (b_turns_of g) (pad_cons (pd_var (pv 0)) pad_nil))) (pgd_name (i := 2) nd rfl (.inl rfl)) (sds_cons (sd_for 64 PassesOwn.never rfl (pid_list (pd_var (pv 2))) (pgd_tup (n := 2) rfl (pgsd_cons (pgd_name (i := 3) nd rfl (.inl rfl)) (pgsd_cons (pgd_name (i := 4) nd rfl (.inl rfl)) pgsd_nil))) (sds_cons (sd_setL (pv 1) (pd_var (pv 3)) (pd_var (pv 4))) sds_nil)) sds_nil)) (sds_cons (sd_ret (pd_callTy call_tuple_ofF cd_tup (by rfl) g.b_tuple boot_tuple (phd_cons (pd_varS (pv 1)) phd_nil))) sds_nil)))) (by decide), fun ds Q h => ?_⟩
  obtain ⟨V, rfl, ok, hQ⟩ := h
  have hn := ok.wi.2.1
  have R := run_V ok
  have hT : (allT V).length ≤ 20 := Nat.le_trans (turns_len ok) hn
  have hfl : (allT V).flatten.length ≤ 20 := by
    have := nd_len R.nd (fun x hx => List.mem_range.mp ((R.mem x).mp hx))
    rw [List.length_map] at this
    omega
  simp [pHm]
  refine ⟨_, rfl, by omega, by omega, ?_⟩
  refine for_mapL (allT V) rowsD (fun P h => ⟨_, rfl, V, rfl, ok, h⟩) (by omega) (fun j ε => ∃ (f : List (Option Nat)) (x2 x3 x4 : Sl), ε = [.val (pHm g.C_Homes V), .own (.lst (f.map oD)), x2, x3, x4] ∧ Gvn V.rs.length ((allT V).take j).flatten f)
    ⟨List.replicate V.rs.length none, .off, .off, .off, by simp [oD, pHm], by simp, by simp, fun p _ => oat_rep⟩ (fun j t ε ht ⟨f, x2, x3, x4, hε, hf⟩ => ?_) (fun ε ⟨f, x2, x3, x4, hε, hf⟩ => ?_)
  · subst hε
    have htk : ((allT V).take (j + 1)).flatten = ((allT V).take j).flatten ++ t := by rw [List.take_add_one, ht]; simp
    have htl : t.length ≤ 20 := by
      have := (List.sublist_flatten_of_mem (List.mem_of_getElem? ht)).length_le
      omega
    simp
    refine for_mapL t rwD (fun P h => ⟨_, rfl, h⟩) (by omega) (fun i ε => ∃ (f : List (Option Nat)) (x3 x4 : Sl), ε = [.val (pHm g.C_Homes V), .own (.lst (f.map oD)), .val (rowsD t), x3, x4] ∧ Gvn V.rs.length (((allT V).take j).flatten ++ t.take i) f)
      ⟨f, x3, x4, rfl, by simpa using hf⟩ (fun i q ε hq ⟨f, x3, x4, hε, hf⟩ => ?_) (fun ε ⟨f, x3, x4, hε, hf⟩ => ?_)
    · subst hε
      obtain ⟨p, b⟩ := q
      have hti : t.take (i + 1) = t.take i ++ [(p, b)] := by rw [List.take_add_one, hq]; rfl
      have hsub : (((allT V).take j).flatten ++ t.take (i + 1)).Sublist (allT V).flatten := by
        refine List.Sublist.trans (List.Sublist.append_left (List.take_sublist _ _) _) ?_
        rw [← htk]
        conv => rhs; rw [← List.take_append_drop (j + 1) (allT V)]
        rw [List.flatten_append]
        exact List.sublist_append_left _ _
      have hnd := R.nd.sublist (hsub.map (·.1))
      rw [hti, ← List.append_assoc, List.map_append, List.nodup_append] at hnd
      have hnp : p ∉ (((allT V).take j).flatten ++ t.take i).map (·.1) := fun hm => hnd.2.2 p hm p (by simp) rfl
      have hpn : p < V.rs.length := List.mem_range.mp ((R.mem p).mp (List.mem_map.mpr ⟨(p, b), hsub.subset (List.mem_append_right _ (by rw [hti]; simp)), rfl⟩))
      have hset : (f.map oD).set p (oD b) = (f.set p b).map oD := by rw [List.map_set]
      have hfl := hf.1
      simp [rwD]
      refine ⟨p, ixN_nat (by omega), f.set p b, hset, ?_⟩
      rw [hti, ← List.append_assoc]
      exact hf.more hpn hnp
    · subst hε
      rw [List.take_length, ← htk] at hf
      simp
      exact ⟨f, rfl, hf⟩
  · subst hε
    rw [List.take_length] at hf
    simp
    exact hQ f hf
end
end K92
set_option maxRecDepth 100000
set_option maxHeartbeats 1000000
namespace K92
open PySem PySem.Spec PyProof.Rows L2 RZ DL LamX
open C8 (call_isC pe_gc InsC)
open M90
variable [TabC]
theorem fsH_w {V : HM} : ∀ (a : Str) (b : Dat), (a, b) ∈ fsH V → ¬ Str.ofString "wanted" = a := fun a b h => by
  have h2 : a ∈ (fsH V).map (·.1) := List.mem_map.mpr ⟨(a, b), h, rfl⟩
  have h3 : a ∈ (["rankings", "houses", "owned", "order"] : List Str) := h2
  intro e
  subst e
  revert h3
  decide
structure OutH (V : HM) (x : List (Option Nat)) : Prop where
  len : x.length = V.rs.length
  one : One x
  want : ∀ p q, oat x p = some q → q ∈ wnt V p
theorem OutH.lt {V : HM} {x : List (Option Nat)} (ok : V.Ok) (h : OutH V x) {p q : Nat} (e : oat x p = some q) : p < V.rs.length ∧ q < V.hs := by
  have hp := oat_some_lt e
  rw [h.len] at hp
  exact ⟨hp, (wnt_ok ok hp).2.1 q (h.want p q e)⟩
def S_is_outcome (C : Addr) : List Dat → (Dat → Prop) → Prop := fun ds P => ∃ (V : HM) (x : List (Option Nat)), ds = [pHm C V, outD x] ∧ V.Ok ∧ OutH V x ∧ P (.bl true)
theorem len_is_outcome {C : Addr} (ds : List Dat) (Q : Dat → Prop) (h : S_is_outcome C ds Q) : ds.length = P_is_outcome.length := by
  obtain ⟨V, x, rfl, _⟩ := h; rfl
section
variable {P : Program} {w : World} {K : PySem.W.Frag} {mg : Str → Option Value} {base : Heap}
theorem ok_is_outcome (g : Fx K mg base) : FnOk P w K mg base L2.CX0 5 g.f_is_outcome g.fd_is_outcome P_is_outcome (spF 0 (S_is_outcome g.C_Homes)) := by
  refine okD g.F_is_outcome sc_is_outcome len_is_outcome (fun cdv A outer s H E hr => ?_)
  have nd := (sc_is_outcome).nd
  refine ⟨_, SDs.cost (sds_cons (sd_if (ptd_not (ptd_val (pd_call (ok_are_owned g) (hr.mono (by decide)) (by rfl) g.g_are_owned g.F_are_owned.kp (b_are_owned g) (pad_cons (pd_var (pv 1)) (pad_cons (pd_callB call_lenA cd_len (by rfl) g.b_len boot_len (phd_cons ((pd_fld g.cl_Homes g.na_Homes_rankings (pd_var (pv 0)))).toSh phd_nil)) (pad_cons (pd_fld g.cl_Homes g.na_Homes_houses (pd_var (pv 0))) pad_nil)))))) (sds_cons (sd_ret pd_bl) sds_nil) sds_nil) (sds_cons (sd_ret (pd_callB (cr_all rfl) cd_all (by rfl) g.b_all boot_all (phd_cons ((pd_lc 64 rfl nd (pid_enum (by rfl) g.b_enumerate (pad_cons (pd_var (pv 1)) pad_nil)) (blkOk_by (own := [("person", 2), ("house", 3)]) (by kernel_rfl)) (fun _ _ _ _ _ => (pgd_tup (n := 2) rfl (pgsd_cons (pgd_name (i := 2) nd rfl (by first | exact .inl rfl | exact .inr rfl)) (pgsd_cons (pgd_name (i := 3) nd rfl (by first | exact .inl rfl | exact .inr rfl)) pgsd_nil)))) (fun _ _ _ _ _ => ptsd_nil) (fun _ _ _ _ _ => (pd_or (pd_cmp op_isA od_is ((pd_var (pv 3))).toSh (pd_non).toSh (nomark _)) (pd_one (pd_cmp (op_inA (ru hr)) od_in ((pd_var (pv 3))).toSh ((pd_meth g.cl_Homes g.me_Homes_wanted (ok_Homes_wanted g) (hr.mono (by decide)) (b_Homes_wanted g) (pd_var (pv 0)) (pad_cons (pd_var (pv 2)) pad_nil))).toSh (by with_unfolding_all rfl))))))).toSh phd_nil))) sds_nil)) (by decide), fun ds Q h => ?_⟩
  obtain ⟨V, x, rfl, ok, hx, hQ⟩ := h
  have hn := ok.wi.2.1
  have hxl := hx.len
  simp [pHm]
  refine ⟨x, V.hs, by rw [hx.len]; rfl, by omega, some_ok hx.one (fun p q e => (hx.lt ok e).2) ok.h20, .inr ⟨rfl, ?_⟩⟩
  refine lc_en (List.range x.length) _ (fun i => some (.bl true)) (fun P h => ⟨_, rfl, h⟩) (.inr rfl) enum_out (by simp; omega) (fun i hi R hR => ?_) ?_
  · have hi' := List.mem_range.mp hi
    simp
    cases e : oat x i with
    | none => exact .inr ⟨rfl, by simpa [e] using hR⟩
    | some q =>
      have hq := hx.want i q e
      refine .inl ⟨rfl, fsH_w, V, i, rfl, ok, by omega, Eq.mpr (fIn_rk (neg := false) (r := wnt V i) (a := q)) ?_⟩
      simpa [hq] using hR
  · rw [fm_const]
    refine ⟨_, blsD_rep, ?_⟩
    rw [all_rep]
    exact hQ
end
def S_check_outcome (C : Addr) : List Dat → (Dat → Prop) → Prop := fun ds P => ∃ (V : HM) (x : List (Option Nat)), ds = [pHm C V, outD x] ∧ V.Ok ∧ OutH V x ∧ P .non
theorem len_check_outcome {C : Addr} (ds : List Dat) (Q : Dat → Prop) (h : S_check_outcome C ds Q) : ds.length = P_check_outcome.length := by
  obtain ⟨V, x, rfl, _⟩ := h; rfl
section
variable {P : Program} {w : World} {K : PySem.W.Frag} {mg : Str → Option Value} {base : Heap}
theorem ok_check_outcome (g : Fx K mg base) : FnOk P w K mg base L2.CX0 6 g.f_check_outcome g.fd_check_outcome P_check_outcome (spF 0 (S_check_outcome g.C_Homes)) := by
  refine okD g.F_check_outcome sc_check_outcome len_check_outcome (fun cdv A outer s H E hr => ?_)
  have nd := (sc_check_outcome).nd
  refine ⟨_, SDs.cost (sds_cons (sd_if (ptd_not (ptd_val (pd_call (ok_is_outcome g) (hr.mono (by decide)) (by rfl) g.g_is_outcome g.F_is_outcome.kp (b_is_outcome g) (pad_cons (pd_var (pv 0)) (pad_cons (pd_var (pv 1)) pad_nil))))) (sds_cons sd_never sds_nil) sds_nil) sds_nil) (by decide), fun ds Q h => ?_⟩
  obtain ⟨V, x, rfl, ok, hx, hQ⟩ := h
  simp
  exact ⟨V, x, rfl, ok, hx, rfl, hQ⟩
end
def btr (V : HM) (x : List (Option Nat)) (p : Nat) : List Nat := match oat x p with
  | none => wnt V p
  | some b => (wnt V p).take (ixo (wnt V p) b)
theorem btr_none {V : HM} {x : List (Option Nat)} {p : Nat} (e : oat x p = none) : btr V x p = wnt V p := by unfold btr; rw [e]
theorem btr_some {V : HM} {x : List (Option Nat)} {p b : Nat} (e : oat x p = some b) : btr V x p = (wnt V p).take (ixo (wnt V p) b) := by unfold btr; rw [e]
theorem mem_btr {V : HM} {x : List (Option Nat)} {p c : Nat} (ok : V.Ok) (hp : p < V.rs.length) : c ∈ btr V x p ↔ c ∈ wnt V p ∧ ∀ b, oat x p = some b → ixo (wnt V p) c < ixo (wnt V p) b := by
  cases e : oat x p with
  | none => rw [btr_none e]; simp
  | some b =>
    rw [btr_some e, take_ixo (wnt_ok ok hp).1]
    simp
def S_better_houses (C : Addr) : List Dat → (Dat → Prop) → Prop := fun ds P => ∃ (V : HM) (x : List (Option Nat)) (p : Nat), ds = [pHm C V, outD x, nD p] ∧ V.Ok ∧ OutH V x ∧ p < V.rs.length ∧ P (rk (btr V x p))
theorem len_better_houses {C : Addr} (ds : List Dat) (Q : Dat → Prop) (h : S_better_houses C ds Q) : ds.length = P_better_houses.length := by
  obtain ⟨V, x, p, rfl, _⟩ := h; rfl
section
variable {P : Program} {w : World} {K : PySem.W.Frag} {mg : Str → Option Value} {base : Heap}
theorem ok_better_houses (g : Fx K mg base) : FnOk P w K mg base L2.CX0 3 g.f_better_houses g.fd_better_houses P_better_houses (spF 0 (S_better_houses g.C_Homes)) := by
  refine okD g.F_better_houses sc_better_houses len_better_houses (fun cdv A outer s H E hr => ?_)
  have nd := (sc_better_houses).nd
  refine ⟨_, SDs.cost (sds_cons (sd_par (i := 3) (j := 4) (pmd_cons (m := .rep) (pd_meth g.cl_Homes g.me_Homes_wanted (ok_Homes_wanted g) (hr.mono (by decide)) (b_Homes_wanted g) (pd_var (pv 0)) (pad_cons (pd_var (pv 2)) pad_nil)) (pmd_cons (m := .rep) (pd_ix (ix_all (ru1 hr)) od_ix ((pd_var (pv 1))).toSh ((pd_var (pv 2))).toSh (fun _ _ => rfl)) pmd_nil)) rfl rfl nd rfl rfl (by decide) rfl rfl (by rfl)) (sds_cons (sd_ret (pd_if (ptd_cmp op_isA od_is ((pd_var (pv 4))).toSh (pd_non).toSh (nomark _)) (pd_var (pv 3)) (pd_slice ((pd_var (pv 3))).toSh pod_none (pod_some (pd_tindex (pd_var (pv 3)) (pd_var (pv 4))))))) sds_nil)) (by decide), fun ds Q h => ?_⟩
  obtain ⟨V, x, p, rfl, ok, hx, hp, hQ⟩ := h
  simp [pHm]
  have hxl := hx.len
  refine ⟨fsH_w, V, p, rfl, ok, hp, Eq.mpr (fIx_out (by omega)) ?_⟩
  cases e : oat x p with
  | none => exact .inr ⟨rfl, by rw [btr_none e] at hQ; exact hQ⟩
  | some b =>
    have hb := hx.want p b e
    refine .inl ⟨rfl, _, rfl, rfl, by simp, ixo (wnt V p) b, nD b, (dTIx_at hb).1, by simp [oD], fun m z h1 h2 => by simpa [oD] using (dTIx_at hb).2 m z h1 h2, ?_⟩
    rw [btr_some e] at hQ
    have sl : ∀ (lo hi : Option Int) (R : Dat → Prop), fSl (rk (wnt V p)) lo hi R = R (.tup (cut ((wnt V p).map nD) lo hi)) := fun _ _ _ => rfl
    rw [sl, cutT, ← List.map_take]
    exact hQ
end
end K92
set_option maxRecDepth 100000
set_option maxHeartbeats 1000000
namespace K92
open PySem PySem.Spec PyProof.Rows L2 RZ DL LamX
open C8 (call_isC pe_gc InsC)
open M90
variable [TabC]
structure Pth (fl : List (List Nat)) (s : Nat) (w : List Nat) (e : Nat) : Prop where
  hd : w[0]? = some s
  nd : w.Nodup
  la : w.getLast? = some e
  st : ∀ i a b, w[i]? = some a → w[i + 1]? = some b → b ∈ row fl a
inductive Rea (fl : List (List Nat)) (s : Nat) : Nat → Prop
  | refl : Rea fl s s
  | tail {a b : Nat} : Rea fl s a → b ∈ row fl a → Rea fl s b
theorem pth_one {fl : List (List Nat)} {s : Nat} : Pth fl s [s] s := ⟨rfl, by simp, rfl, fun i a b h1 h2 => by simp at h2⟩
theorem Pth.more {fl : List (List Nat)} {s e b : Nat} {w : List Nat} (h : Pth fl s w e) (hb : b ∈ row fl e) (hn : b ∉ w) : Pth fl s (w ++ [b]) b := by
  have hp : 0 < w.length := (List.getElem?_eq_some_iff.mp h.hd).1
  refine ⟨by rw [List.getElem?_append_left hp]; exact h.hd, ?_, by simp, fun i a c h1 h2 => ?_⟩
  · rw [List.nodup_append]
    refine ⟨h.nd, by simp, fun y hy z hz e => ?_⟩
    rw [List.mem_singleton.mp hz] at e
    exact hn (e ▸ hy)
  · rcases Nat.lt_or_ge (i + 1) w.length with q | q
    · rw [List.getElem?_append_left (by omega)] at h1
      rw [List.getElem?_append_left q] at h2
      exact h.st i a c h1 h2
    · have hi : i + 1 = w.length := by
        have := (List.getElem?_eq_some_iff.mp h2).1
        simp at this
        omega
      rw [List.getElem?_append_left (by omega)] at h1
      rw [hi] at h2
      simp at h2
      subst h2
      have := h.la
      rw [List.getLast?_eq_getElem?, show w.length - 1 = i by omega, h1] at this
      cases this
      exact hb
/-- ways as they stand: a key, its path -/
def wD (l : List (Nat × List Nat)) : List (Key × Dat) := l.map fun q => (.inl (q.1 : Int), rk q.2)
def kys (l : List (Nat × List Nat)) : List Nat := l.map (·.1)
theorem look_wD {l : List (Nat × List Nat)} {k : Nat} : (k ∈ kys l → ∃ w, (k, w) ∈ l ∧ lookD (wD l) (.inl (k : Int)) = some (rk w)) ∧ (k ∉ kys l → lookD (wD l) (.inl (k : Int)) = none) := by
  induction l with
  | nil => exact ⟨fun h => by simp [kys] at h, fun _ => rfl⟩
  | cons a l ih =>
    by_cases e : a.1 = k
    · refine ⟨fun _ => ⟨a.2, by rw [← e]; simp, by simp [lookD, wD, e]⟩, fun h => (h (by simp [kys, e])).elim⟩
    · have e2 : ¬ ((a.1 : Int) = (k : Int)) := by omega
      have e3 : lookD (wD (a :: l)) (.inl (k : Int)) = lookD (wD l) (.inl (k : Int)) := by simp [lookD, wD, e2]
      rw [e3]
      refine ⟨fun h => ?_, fun h => ih.2 fun z => h (by simp [kys] at z ⊢; exact .inr z)⟩
      have hk : k ∈ kys l := by
        simp [kys] at h ⊢
        rcases h with h | h
        · exact (e h.symm).elim
        · exact h
      obtain ⟨w, h1, h2⟩ := ih.1 hk
      exact ⟨w, List.mem_cons_of_mem _ h1, h2⟩
theorem put_wD {l : List (Nat × List Nat)} {k : Nat} {w : List Nat} (h : k ∉ kys l) : putD (wD l) (.inl (k : Int)) (rk w) = wD (l ++ [(k, w)]) := by
  unfold putD
  have : ((wD l).any fun kv => decide (kv.1 = (.inl (k : Int) : Key))) = false := by
    rw [List.any_eq_false]
    intro kv hkv
    obtain ⟨q, hq, rfl⟩ := List.mem_map.mp hkv
    simp
    intro e
    have e2 : q.1 = k := by omega
    exact h (List.mem_map.mpr ⟨q, hq, e2⟩)
  rw [this]
  simp [wD]
/-- what the ways keep -/
structure WI (fl : List (List Nat)) (s : Nat) (l : List (Nat × List Nat)) : Prop where
  nd : (kys l).Nodup
  st0 : s ∈ kys l
  lt : ∀ k ∈ kys l, k < fl.length
  pt : ∀ q ∈ l, Pth fl s q.2 q.1 ∧ ∀ a ∈ q.2, a ∈ kys l
theorem WI.more {fl : List (List Nat)} {s k b : Nat} {w : List Nat} {l : List (Nat × List Nat)} (h : WI fl s l) (hw : (k, w) ∈ l) (hb : b ∈ row fl k) (hlt : b < fl.length) (hn : b ∉ kys l) : WI fl s (l ++ [(b, w ++ [b])]) := by
  obtain ⟨p1, p2⟩ := h.pt _ hw
  have ek : kys (l ++ [(b, w ++ [b])]) = kys l ++ [b] := by simp [kys]
  refine ⟨?_, ?_, ?_, fun q hq => ?_⟩
  · rw [ek, List.nodup_append]
    refine ⟨h.nd, by simp, fun y hy z hz e => ?_⟩
    rw [List.mem_singleton.mp hz] at e
    exact hn (e ▸ hy)
  · rw [ek]; exact List.mem_append_left _ h.st0
  · rw [ek]
    intro x hx
    rcases List.mem_append.mp hx with z | z
    · exact h.lt x z
    · rw [List.mem_singleton.mp z]; exact hlt
  · rw [ek]
    rcases List.mem_append.mp hq with z | z
    · exact ⟨(h.pt q z).1, fun a ha => List.mem_append_left _ ((h.pt q z).2 a ha)⟩
    · rw [List.mem_singleton.mp z]
      refine ⟨p1.more hb fun hm => hn (p2 b hm), fun a ha => ?_⟩
      rcases List.mem_append.mp ha with y | y
      · exact List.mem_append_left _ (p2 a y)
      · exact List.mem_append_right _ y
theorem WI.len {fl : List (List Nat)} {s : Nat} {l : List (Nat × List Nat)} (h : WI fl s l) : l.length ≤ fl.length := by
  have := nd_len h.nd h.lt
  simpa [kys] using this
def S_way_to : List Dat → (Dat → Prop) → Prop := fun ds P => ∃ (fl : List (List Nat)) (s e : Nat), ds = [heldD fl, nD s, nD e] ∧ (∀ a b, b ∈ row fl a → b < fl.length) ∧ s < fl.length ∧ fl.length ≤ 20 ∧ (∀ a, (row fl a).length ≤ 60) ∧ (∀ w, Pth fl s w e → P (rk w)) ∧ (¬ Rea fl s e → P .non)
theorem len_way_to (ds : List Dat) (Q : Dat → Prop) (h : S_way_to ds Q) : ds.length = P_way_to.length := by
  obtain ⟨V, x, p, rfl, _⟩ := h; rfl
def wt_ms (n : Nat) (new : List Nat) (l : List (Nat × List Nat)) : Nat := if new = [] then 0 else n - l.length + 1
section
variable {P : Program} {w : World} {K : PySem.W.Frag} {mg : Str → Option Value} {base : Heap}
theorem ok_way_to (g : Fx K mg base) : FnOk P w K mg base L2.CX0 1 g.f_way_to g.fd_way_to P_way_to (spF 0 S_way_to) := by
  refine okD g.F_way_to sc_way_to len_way_to (fun cdv A outer s H E hr => ?_)
  have nd := (sc_way_to).nd
  refine ⟨_, SDs.cost (sds_cons (sd_par (i := 3) (j := 4) (pmd_cons (m := .fr) (pd_lit1 (pd_var (pv 1)) (pd_tup (pad_cons (pd_var (pv 1)) pad_nil))) (pmd_cons (m := .rep) ((pd_lst (pad_cons (pd_var (pv 1)) pad_nil))).frz pmd_nil)) rfl rfl nd rfl rfl (by decide) rfl rfl (by rfl)) (sds_cons (sd_while 64 PassesOwn.never (ptd_cmp (op_neD (ru0 hr)) od_ne ((pd_var (pv 4))).toSh ((pd_lst pad_nil)).toSh (nomark _)) (sds_cons (sd_asgO (i := 5) (pd_lst pad_nil) nd rfl (.inl rfl)) (sds_cons (sd_for 64 PassesOwn.never rfl (pid_list (pd_var (pv 4))) (pgd_name (i := 6) nd rfl (.inl rfl)) (sds_cons (sd_for 64 PassesOwn.never rfl (pid_list (pd_ix (ix_all (ru1 hr)) od_ix ((pd_var (pv 0))).toSh ((pd_var (pv 6))).toSh (fun _ _ => rfl))) (pgd_name (i := 7) nd rfl (.inl rfl)) (sds_cons (sd_if (ptd_cmp (op_notinA (ru hr)) od_notin ((pd_var (pv 7))).toSh (pd_varS (pv 3)) (by with_unfolding_all rfl)) (sds_cons (sd_putK (ru1 hr) (pv 3) (pd_var (pv 7)) (pd_tup (pad_star ((pd_ix (ix_all (ru1 hr)) od_ix (pd_varS (pv 3)) ((pd_var (pv 6))).toSh (fun _ _ => rfl))).toSh (pad_cons (pd_var (pv 7)) pad_nil)))) (sds_cons (sd_app (pv 5) (pd_var (pv 7))) sds_nil)) sds_nil) sds_nil)) sds_nil)) (sds_cons ((sd_asg (i := 4) (pd_var (pv 5)) nd rfl (.inl rfl)).frz 5) sds_nil)))) (sds_cons (sd_ret (pd_get1 (ru1 hr) (pd_varS (pv 3)) (pd_var (pv 2)))) sds_nil))) (by decide), fun ds Q h => ?_⟩
  obtain ⟨fl, s, e, rfl, hlt, hs, hn, hrl, hP, hN⟩ := h
  simp
  refine ⟨fun m ε => ∃ (l : List (Nat × List Nat)) (new : List Nat) (x5 x6 x7 : Sl), ε = [.val (heldD fl), .val (nD s), .val (nD e), .own (.dct (wD l)), .val (.lst (new.map nD)), x5, x6, x7] ∧ WI fl s l ∧ (∀ a ∈ new, a ∈ kys l) ∧ (∀ a ∈ kys l, a ∉ new → ∀ b ∈ row fl a, b ∈ kys l) ∧ new.length ≤ 20 ∧ m = wt_ms fl.length new l,
    ⟨wt_ms fl.length [s] [(s, [s])], by simp [wt_ms]; omega, [(s, [s])], [s], .off, .off, .off, rfl, ⟨by simp [kys], by simp [kys], by simpa [kys] using hs, fun q hq => ?_⟩, by simp [kys], fun a ha hna => ?_, by simp, rfl⟩, fun m ε ⟨l, new, x5, x6, x7, hε, hW, hnew, hcl, hnl, hm⟩ => ?_⟩
  · rw [List.mem_singleton.mp hq]
    exact ⟨pth_one, by simp [kys]⟩
  · exact (hna (by simpa [kys] using ha)).elim
  subst hε
  simp
  rw [eqD_lnil]
  by_cases hne : new = []
  · subst hne
    refine .inl ⟨by simp, ?_⟩
    by_cases he : e ∈ kys l
    · obtain ⟨w, h1, h2⟩ := look_wD.1 he
      rw [h2]
      exact hP w (hW.pt _ h1).1
    · rw [look_wD.2 he]
      have all : ∀ x, Rea fl s x → x ∈ kys l := fun x hr => by
        clear he
        induction hr with
        | refl => exact hW.st0
        | tail h1 h2 ih => exact hcl _ ih (by simp) _ h2
      exact hN fun hr => he (all e hr)
  · refine .inr ⟨by simp [hne], ?_⟩
    refine for_mapL new nD (fun P h => ⟨_, rfl, h⟩) (by omega) (fun j ε => ∃ (l' : List (Nat × List Nat)) (r : List Nat) (x6 x7 : Sl), ε = [.val (heldD fl), .val (nD s), .val (nD e), .own (.dct (wD l')), .val (.lst (new.map nD)), .own (.lst (r.map nD)), x6, x7] ∧ WI fl s l' ∧ kys l' = kys l ++ r ∧ ∀ a ∈ new.take j, ∀ b ∈ row fl a, b ∈ kys l')
      ⟨l, [], x6, x7, rfl, hW, by simp, by simp⟩ (fun j a ε ha ⟨l', r, x6, x7, hε, hW', hk, hd⟩ => ?_) (fun ε ⟨l', r, x6, x7, hε, hW', hk, hd⟩ => ?_)
    · subst hε
      have hal := hnew a (List.mem_of_getElem? ha)
      have haf := hW.lt a hal
      have htk : new.take (j + 1) = new.take j ++ [a] := by rw [List.take_add_one, ha]; rfl
      simp
      refine for_mapL (row fl a) nD (fun P h => ⟨_, rfl, _, rfl, Eq.mpr (fIx_held haf) h⟩) (by have := hrl a; omega) (fun t ε => ∃ (l' : List (Nat × List Nat)) (r : List Nat) (x7 : Sl), ε = [.val (heldD fl), .val (nD s), .val (nD e), .own (.dct (wD l')), .val (.lst (new.map nD)), .own (.lst (r.map nD)), .val (nD a), x7] ∧ WI fl s l' ∧ kys l' = kys l ++ r ∧ (∀ a ∈ new.take j, ∀ b ∈ row fl a, b ∈ kys l') ∧ ∀ b ∈ (row fl a).take t, b ∈ kys l')
        ⟨l', r, x7, rfl, hW', hk, hd, by simp⟩ (fun t b ε hb ⟨l', r, x7, hε, hW', hk, hd, hb2⟩ => ?_) (fun ε ⟨l', r, x7, hε, hW', hk, hd, hb2⟩ => ?_)
      · subst hε
        have hbm := List.mem_of_getElem? hb
        have hbl := hlt a b hbm
        have hbt : (row fl a).take (t + 1) = (row fl a).take t ++ [b] := by rw [List.take_add_one, hb]; rfl
        simp
        refine ⟨_, rfl, ?_⟩
        by_cases hbk : b ∈ kys l'
        · obtain ⟨w, h1, h2⟩ := look_wD.1 hbk
          rw [h2]
          refine .inl ⟨rfl, l', r, ⟨rfl, rfl⟩, hW', hk, hd, fun c hc => ?_⟩
          rw [hbt] at hc
          rcases List.mem_append.mp hc with z | z
          · exact hb2 c z
          · rw [List.mem_singleton.mp z]; exact hbk
        · rw [look_wD.2 hbk]
          refine .inr ⟨rfl, ?_⟩
          have hak : a ∈ kys l' := by rw [hk]; exact List.mem_append_left _ hal
          obtain ⟨w, h1, h2⟩ := look_wD.1 hak
          obtain ⟨p1, p2⟩ := hW'.pt _ h1
          have hwl : w.length ≤ fl.length := nd_len p1.nd (fun x hx => hW'.lt x (p2 x hx))
          have hll := hW'.len
          have hkl : r.length ≤ 20 := by
            have h9 := congrArg List.length hk
            simp [kys] at h9
            omega
          have ek : kys (l' ++ [(b, w ++ [b])]) = kys l' ++ [b] := by simp [kys]
          refine ⟨rk w, h2, _, .inr rfl, by simp; omega, by unfold wD; rw [List.length_map]; omega, by omega, l' ++ [(b, w ++ [b])], r ++ [b], ⟨?_, by simp⟩, hW'.more h1 hbm hbl hbk, by rw [ek, hk, List.append_assoc], fun c hc d hdd => by rw [ek]; exact List.mem_append_left _ (hd c hc d hdd), fun c hc => ?_⟩
          · have := put_wD (w := w ++ [b]) hbk
            simpa [rk] using this
          · rw [ek]
            rw [hbt] at hc
            rcases List.mem_append.mp hc with z | z
            · exact List.mem_append_left _ (hb2 c z)
            · exact List.mem_append_right _ z
      · subst hε
        rw [List.take_length] at hb2
        simp
        refine ⟨l', r, ⟨rfl, rfl⟩, hW', hk, fun c hc d hdd => ?_⟩
        rw [htk] at hc
        rcases List.mem_append.mp hc with z | z
        · exact hd c z d hdd
        · rw [List.mem_singleton.mp z] at hdd
          exact hb2 d hdd
    · subst hε
      rw [List.take_length] at hd
      simp
      have h9 := congrArg List.length hk
      simp [kys] at h9
      have hll := hW'.len
      refine ⟨_, ?_, l', r, ⟨rfl, rfl⟩, hW', fun a ha => by rw [hk]; exact List.mem_append_right _ ha, fun a ha hna b hb => ?_, by omega, rfl⟩
      · rw [hm]
        unfold wt_ms
        rw [if_neg hne]
        by_cases hr : r = []
        · rw [if_pos hr]; omega
        · rw [if_neg hr]
          have : 0 < r.length := List.length_pos_iff.mpr hr
          omega
      · rw [hk] at ha
        rcases List.mem_append.mp ha with z | z
        · by_cases hn2 : a ∈ new
          · exact hd a hn2 b hb
          · rw [hk]
            exact List.mem_append_left _ (hcl a z hn2 b hb)
        · exact (hna z).elim
end
end K92
set_option maxRecDepth 100000
set_option maxHeartbeats 2000000
/-! H4: chains and what they better. -/
namespace K92
open PySem PySem.Spec PyProof.Rows L2 RZ DL M90
variable [TabC]
/-- what the i-th of a chain gets -/
def gtO (x : List (Option Nat)) (pe : List Nat) (la : Option Nat) (i : Nat) : Option Nat := match pe[i + 1]? with
  | some q => oat x q
  | none => match la with
    | some c => some c
    | none => oat x (pe.headD 0)
structure Chn (V : HM) (x : List (Option Nat)) (pe : List Nat) (la : Option Nat) : Prop where
  ne : pe ≠ []
  nd : pe.Nodup
  lt : ∀ p ∈ pe, p < V.rs.length
  out : ∀ c, la = some c → ∀ p, oat x p ≠ some c
  gt : ∀ (i p : Nat), pe[i]? = some p → ∃ c, gtO x pe la i = some c ∧ c ∈ btr V x p
/-- one outcome is no worse for all and better for somebody -/
structure Imp (V : HM) (y x : List (Option Nat)) : Prop where
  no : ∀ p, p < V.rs.length → oat y p ≠ oat x p → ∃ c, oat y p = some c ∧ c ∈ btr V x p
  so : ∃ p, p < V.rs.length ∧ oat y p ≠ oat x p
section
variable {V : HM} {x y : List (Option Nat)} {pe : List Nat} {la : Option Nat}
theorem btr_wnt (ok : V.Ok) {p c : Nat} (hp : p < V.rs.length) (h : c ∈ btr V x p) : c ∈ wnt V p := ((mem_btr ok hp).mp h).1
theorem btr_ne (ok : V.Ok) {p c : Nat} (hp : p < V.rs.length) (h : c ∈ btr V x p) : oat x p ≠ some c := fun e => by
  have := ((mem_btr ok hp).mp h).2 c e
  omega
theorem gt_next {i q : Nat} (h : pe[i + 1]? = some q) : gtO x pe la i = oat x q := by unfold gtO; rw [h]
theorem gt_last_some {i c : Nat} (h : pe[i + 1]? = none) (hl : la = some c) : gtO x pe la i = some c := by unfold gtO; rw [h, hl]
theorem gt_last_none {i : Nat} (h : pe[i + 1]? = none) (hl : la = none) : gtO x pe la i = oat x (pe.headD 0) := by unfold gtO; rw [h, hl]
theorem hd_get (h : pe ≠ []) : pe[0]? = some (pe.headD 0) := by
  cases pe with
  | nil => exact (h rfl).elim
  | cons a t => rfl
/-- who holds what the i-th gets is the next one -/
theorem gt_from {i p q c : Nat} (hx : One x) (hc : Chn V x pe la) (hp : pe[i]? = some p) (hg : gtO x pe la i = some c) (hq : oat x q = some c) : (pe[i + 1]? = some q) ∨ (i + 1 = pe.length ∧ la = none ∧ pe[0]? = some q) := by
  cases e : pe[i + 1]? with
  | some r =>
    rw [gt_next e] at hg
    rw [hx q r c hq hg]
    exact .inl rfl
  | none =>
    have hi := (List.getElem?_eq_some_iff.mp hp).1
    have hl := List.getElem?_eq_none_iff.mp e
    cases l : la with
    | some d =>
      rw [gt_last_some e l] at hg
      cases hg
      exact (hc.out c l q hq).elim
    | none =>
      rw [gt_last_none e l] at hg
      have := hx q _ c hq hg
      rw [← this]
      exact .inr ⟨by omega, rfl, hd_get hc.ne⟩
/-- a chain betters -/
theorem chn_imp (ok : V.Ok) (hx : OutH V x) (hc : Chn V x pe la) : ∃ y, OutH V y ∧ Imp V y x := by
  have hlen := hx.len
  let y := (List.range V.rs.length).map fun p => if p ∈ pe then gtO x pe la (pe.idxOf p) else oat x p
  have yl : y.length = V.rs.length := by simp [y]
  have yat : ∀ p, p < V.rs.length → oat y p = if p ∈ pe then gtO x pe la (pe.idxOf p) else oat x p := fun p hp => oat_range hp
  have hin : ∀ p, p ∈ pe → pe[pe.idxOf p]? = some p := fun p hp => get_ixo hp
  have some_lt : ∀ {p c}, oat y p = some c → p < V.rs.length := fun {p c} e => by have := oat_some_lt e; omega
  -- where a house comes from
  have src : ∀ p c, p ∈ pe → oat y p = some c → (∃ q, oat x q = some c ∧ ((pe[pe.idxOf p + 1]? = some q) ∨ (pe.idxOf p + 1 = pe.length ∧ la = none ∧ pe[0]? = some q))) ∨ (la = some c ∧ pe.idxOf p + 1 = pe.length) := fun p c hp e => by
    rw [yat p (hc.lt p hp), if_pos hp] at e
    have hi := (List.getElem?_eq_some_iff.mp (hin p hp)).1
    cases e1 : pe[pe.idxOf p + 1]? with
    | some q =>
      rw [gt_next e1] at e
      exact .inl ⟨q, e, .inl rfl⟩
    | none =>
      have hl := List.getElem?_eq_none_iff.mp e1
      cases l : la with
      | some d =>
        rw [gt_last_some e1 l] at e
        cases e
        exact .inr ⟨rfl, by omega⟩
      | none =>
        rw [gt_last_none e1 l] at e
        exact .inl ⟨_, e, .inr ⟨by omega, rfl, hd_get hc.ne⟩⟩
  have mem_of : ∀ {p q : Nat}, ((pe[pe.idxOf p + 1]? = some q) ∨ (pe.idxOf p + 1 = pe.length ∧ la = none ∧ pe[0]? = some q)) → q ∈ pe := fun {p q} h => h.elim (fun z => List.mem_of_getElem? z) fun z => List.mem_of_getElem? z.2.2
  have inj : ∀ {i j q : Nat}, pe[i]? = some q → pe[j]? = some q → i = j := fun {i j q} h1 h2 => by
    obtain ⟨a1, a2⟩ := List.getElem?_eq_some_iff.mp h1
    obtain ⟨b1, b2⟩ := List.getElem?_eq_some_iff.mp h2
    exact (List.getElem_inj (h₀ := a1) (h₁ := b1) hc.nd).mp (a2.trans b2.symm)
  have one : One y := fun p q c e1 e2 => by
    by_cases hp : p ∈ pe <;> by_cases hq : q ∈ pe
    · have key : pe.idxOf p = pe.idxOf q := by
        rcases src p c hp e1 with ⟨s, a1, a2⟩ | ⟨a1, a2⟩ <;> rcases src q c hq e2 with ⟨t, b1, b2⟩ | ⟨b1, b2⟩
        · have := hx.one s t c a1 b1
          subst this
          rcases a2 with a2 | a2 <;> rcases b2 with b2 | b2
          · have := inj a2 b2; omega
          · have := inj a2 b2.2.2; omega
          · have := inj a2.2.2 b2; omega
          · omega
        · exact (hc.out c b1 s a1).elim
        · exact (hc.out c a1 t b1).elim
        · omega
      have := hin p hp
      rw [key, hin q hq] at this
      exact Option.some.inj this
    · have e2' := e2
      rw [yat q (some_lt e2), if_neg hq] at e2'
      rcases src p c hp e1 with ⟨s, a1, a2⟩ | ⟨a1, _⟩
      · rw [hx.one s q c a1 e2'] at hq
        exact (hq (mem_of a2)).elim
      · exact (hc.out c a1 q e2').elim
    · have e1' := e1
      rw [yat p (some_lt e1), if_neg hp] at e1'
      rcases src q c hq e2 with ⟨s, a1, a2⟩ | ⟨a1, _⟩
      · rw [hx.one s p c a1 e1'] at hp
        exact (hp (mem_of a2)).elim
      · exact (hc.out c a1 p e1').elim
    · rw [yat p (some_lt e1), if_neg hp] at e1
      rw [yat q (some_lt e2), if_neg hq] at e2
      exact hx.one p q c e1 e2
  have bet : ∀ p ∈ pe, ∃ c, oat y p = some c ∧ c ∈ btr V x p := fun p hp => by
    obtain ⟨c, h1, h2⟩ := hc.gt _ p (hin p hp)
    exact ⟨c, by rw [yat p (hc.lt p hp), if_pos hp]; exact h1, h2⟩
  refine ⟨y, ⟨yl, one, fun p q e => ?_⟩, ⟨fun p hp hne => ?_, ?_⟩⟩
  · have hp := some_lt e
    by_cases z : p ∈ pe
    · obtain ⟨c, h1, h2⟩ := bet p z
      rw [e] at h1
      cases h1
      exact btr_wnt ok hp h2
    · rw [yat p hp, if_neg z] at e
      exact hx.want p q e
  · by_cases z : p ∈ pe
    · exact bet p z
    · rw [yat p hp, if_neg z] at hne
      exact (hne rfl).elim
  · obtain ⟨p, hp⟩ := List.exists_mem_of_ne_nil _ hc.ne
    obtain ⟨c, h1, h2⟩ := bet p hp
    refine ⟨p, hc.lt p hp, fun e => ?_⟩
    rw [h1] at e
    exact btr_ne ok (hc.lt p hp) h2 e.symm
/-- where something is better there is a chain -/
theorem imp_chn (ok : V.Ok) (hx : OutH V x) (hy : OutH V y) (h : Imp V y x) : ∃ pe la, Chn V x pe la := by
  by_cases hfree : ∃ p c, p < V.rs.length ∧ oat y p = some c ∧ oat y p ≠ oat x p ∧ ∀ q, oat x q ≠ some c
  · obtain ⟨p, c, hp, e, hne, hno⟩ := hfree
    obtain ⟨d, h1, h2⟩ := h.no p hp hne
    rw [e] at h1
    cases h1
    refine ⟨[p], some c, ⟨by simp, by simp, by simpa using hp, fun d e q => by cases e; exact hno q, fun i q hq => ?_⟩⟩
    cases i with
    | zero =>
      simp at hq
      subst hq
      exact ⟨c, gt_last_some (by simp) rfl, h2⟩
    | succ i => simp at hq
  · have held : ∀ p, p < V.rs.length → oat y p ≠ oat x p → ∃ c q, oat y p = some c ∧ c ∈ btr V x p ∧ oat x q = some c := fun p hp hne => by
      obtain ⟨c, h1, h2⟩ := h.no p hp hne
      have : ∃ q, oat x q = some c := Classical.byContradiction fun hn => hfree ⟨p, c, hp, h1, hne, fun q e => hn ⟨q, e⟩⟩
      obtain ⟨q, hq⟩ := this
      exact ⟨c, q, h1, h2, hq⟩
    let nx : Nat → Option Nat := fun p => if p < V.rs.length ∧ oat y p ≠ oat x p then (oat y p).bind (hld x) else none
    let S := (List.range V.rs.length).filter fun p => decide (oat y p ≠ oat x p)
    have memS : ∀ p, p ∈ S ↔ p < V.rs.length ∧ oat y p ≠ oat x p := fun p => by simp [S]
    have step : ∀ p ∈ S, ∃ c q, nx p = some q ∧ oat y p = some c ∧ c ∈ btr V x p ∧ oat x q = some c ∧ q ∈ S := fun p hp => by
      have hp2 := (memS p).mp hp
      obtain ⟨c, q, h1, h2, h3⟩ := held p hp2.1 hp2.2
      have hq := (hx.lt ok h3).1
      refine ⟨c, q, ?_, h1, h2, h3, (memS q).mpr ⟨hq, fun e => ?_⟩⟩
      · show (if p < V.rs.length ∧ oat y p ≠ oat x p then (oat y p).bind (hld x) else none) = some q
        rw [if_pos hp2, h1]
        exact (hld_iff hx.one q c).mp h3
      · rw [h3] at e
        have := hy.one p q c h1 e
        subst this
        exact btr_ne ok hq h2 h3
    obtain ⟨p0, hp0, hne0⟩ := h.so
    have hS : S ≠ [] := List.ne_nil_of_mem ((memS p0).mpr ⟨hp0, hne0⟩)
    obtain ⟨s, hs, cs⟩ := cyc_ex hS fun p hp => by
      obtain ⟨c, q, h1, _, _, _, h5⟩ := step p hp
      exact ⟨q, h5, h1⟩
    obtain ⟨w, W⟩ := cyc_way cs
    have inS : ∀ a ∈ w, a ∈ S := fun a ha => by
      obtain ⟨i, hi⟩ := List.getElem?_of_mem ha
      have hl := (List.getElem?_eq_some_iff.mp hi).1
      have h1 := W.st i a hi
      have ⟨r, h2⟩ : ∃ r, (w ++ [s])[i + 1]? = some r := by
        cases q : (w ++ [s])[i + 1]? with
        | some r => exact ⟨r, rfl⟩
        | none =>
          have := List.getElem?_eq_none_iff.mp q
          simp at this
          omega
      rw [h2] at h1
      have h3 : (if a < V.rs.length ∧ oat y a ≠ oat x a then (oat y a).bind (hld x) else none) = some r := h1
      by_cases z : a < V.rs.length ∧ oat y a ≠ oat x a
      · exact (memS a).mpr z
      · rw [if_neg z] at h3; cases h3
    have wne : w ≠ [] := fun e => by have := W.pos; rw [e] at this; simp at this
    refine ⟨w, none, ⟨wne, W.nd, fun p hp => ((memS p).mp (inS p hp)).1, fun c e => (by cases e), fun i p hp => ?_⟩⟩
    obtain ⟨c, q, h1, h2, h3, h4, _⟩ := step p (inS p (List.mem_of_getElem? hp))
    have h5 := W.st i p hp
    rw [h1] at h5
    refine ⟨c, ?_, h3⟩
    have hl := (List.getElem?_eq_some_iff.mp hp).1
    cases e : w[i + 1]? with
    | some r =>
      have hl2 := (List.getElem?_eq_some_iff.mp e).1
      rw [List.getElem?_append_left hl2, e] at h5
      cases h5
      rw [gt_next e]
      exact h4
    | none =>
      have hl2 := List.getElem?_eq_none_iff.mp e
      have : i + 1 = w.length := by omega
      rw [this] at h5
      simp at h5
      subst h5
      rw [gt_last_none e rfl]
      have h0 := W.hd
      rw [hd_get wne] at h0
      rw [Option.some.inj h0]
      exact h4
/-- what all turns give has no chain -/
theorem run_chn (ok : V.Ok) (hg : Gvn V.rs.length (allT V).flatten x) (hx : OutH V x) (hc : Chn V x pe la) : False := by
  have R := run_V ok
  have key : ∀ (i : Nat) (t : List (Nat × Option Nat)) (p : Nat) (b : Option Nat), (allT V)[i]? = some t → (p, b) ∈ t → p ∈ pe → False := by
    intro i
    induction i using Nat.strongRecOn with
    | ind i ih =>
      intro t p b ht hp hpe
      obtain ⟨k, hk⟩ := List.getElem?_of_mem hpe
      obtain ⟨c, h1, h2⟩ := hc.gt k p hk
      have hpn := hc.lt p hpe
      have hw := (mem_btr ok hpn).mp h2
      have hmem : (p, b) ∈ (allT V).flatten := List.mem_flatten.mpr ⟨t, List.mem_of_getElem? ht, hp⟩
      have hxp := hg.2.1 p b hmem
      obtain ⟨j, t', q, a1, a2, a3⟩ := R.early i t p b c ht hp hw.1 (List.mem_range.mpr ((wnt_ok ok hpn).2.1 c hw.1)) fun d hd => hw.2 d (by rw [hxp, hd])
      have hq := hg.2.1 q (some c) (List.mem_flatten.mpr ⟨t', List.mem_of_getElem? a2, a3⟩)
      have hqpe : q ∈ pe := by
        rcases gt_from hx.one hc hk h1 hq with z | z
        · exact List.mem_of_getElem? z
        · exact List.mem_of_getElem? z.2.2
      exact ih j a1 t' q (some c) a2 a3 hqpe
  obtain ⟨p, hp⟩ := List.exists_mem_of_ne_nil _ hc.ne
  have := (R.mem p).mpr (List.mem_range.mpr (hc.lt p hp))
  obtain ⟨⟨p', b⟩, h1, h2⟩ := List.mem_map.mp this
  have h2' : p' = p := h2
  subst h2'
  obtain ⟨t, ht, hpt⟩ := List.mem_flatten.mp h1
  obtain ⟨i, hi⟩ := List.getElem?_of_mem ht
  exact key i t p' b hi hpt hp
theorem run_out (ok : V.Ok) (hg : Gvn V.rs.length (allT V).flatten x) : OutH V x := by
  have R := run_V ok
  have src : ∀ p c, oat x p = some c → (p, some c) ∈ (allT V).flatten := fun p c e => by
    have hm : p ∈ (allT V).flatten.map (·.1) := Classical.byContradiction fun hn => by
      rw [hg.2.2 p hn] at e; cases e
    obtain ⟨⟨p', b⟩, h1, h2⟩ := List.mem_map.mp hm
    have h2' : p' = p := h2
    subst h2'
    have := hg.2.1 p' b h1
    rw [e] at this
    subst this
    exact h1
  exact ⟨hg.1, fun p q c e1 e2 => (R.one p q c (src p c e1) (src q c e2)).symm, fun p q e => (R.gets p q (src p q e)).1⟩
theorem run_own (ok : V.Ok) (hg : Gvn V.rs.length (allT V).flatten x) {p o : Nat} (ho : oat V.ow p = some o) : ∃ c, oat x p = some c ∧ c ∈ wnt V p := by
  have R := run_V ok
  have hp : p < V.rs.length := by have := oat_some_lt ho; rw [ok.ol] at this; exact this
  obtain ⟨⟨p', b⟩, h1, h2⟩ := List.mem_map.mp ((R.mem p).mpr (List.mem_range.mpr hp))
  have h2' : p' = p := h2
  subst h2'
  have e := hg.2.1 p' b h1
  cases b with
  | none => exact (R.own p' o ho h1).elim
  | some c => exact ⟨c, e, (run_out ok hg).want p' c e⟩
end
end K92
set_option maxRecDepth 100000
set_option maxHeartbeats 1000000
namespace K92
open PySem PySem.Spec PyProof.Rows L2 RZ DL LamX
open C8 (call_isC pe_gc InsC)
open M90
variable [TabC]
section
variable {α : Type} {M : Nat} {T Te : TD} {U : TAD} {G : GD} {Tt : TTD} {ε : Ev} {vs : List Nat} {P : Dat → Prop} {Ts : TSD} {E : DE}
theorem rngD0 {n : Nat} : rngD 0 ((n : Int) - 0).toNat = (List.range n).map nD := by simp [rngD, nD]
theorem lc_g {n : Nat} (g : Nat → Option Dat) (hT : ∀ P : Dat → Prop, P (.rng 0 (n : Int)) → T ε P) (hl : n ≤ M) (hM : n ≤ 100000)
    (h : ∀ a, a < n → ∀ R : Option Dat → Prop, R (g a) → G (nD a) (wipeD ε vs) fun ε2 => Tt ε2 fun b => if b = true then Te ε2 fun y => R (some y) else R none) (hP : P (.lst ((List.range n).filterMap g))) : dLc M (iRg T) G Tt Te vs ε P :=
  hT _ ⟨0, n, rfl, ⟨by omega, by omega, by omega, by omega⟩, lcm (Pl := fun a => P (.lst a)) (List.range n) nD g rngD0 (by simpa using hl) (fun a ha => h a (List.mem_range.mp ha)) hP⟩
theorem for_g {n : Nat} (hT : ∀ P : Dat → Prop, P (.rng 0 (n : Int)) → T ε P) (hl : n ≤ M) (hM : n ≤ 100000) (Iv : Nat → Ev → Prop) (h0 : Iv 0 ε) (hs : ∀ i ε', i < n → Iv i ε' → G (nD i) ε' fun ε2 => Ts { E with nx := Iv (i + 1), ct := Iv (i + 1), bk := E.nx } ε2) (hd : ∀ ε', Iv n ε' → E.nx ε') : sFor M (iRg T) G Ts E ε := by
  refine hT _ ⟨0, n, rfl, ⟨by omega, by omega, by omega, by omega⟩, by rw [rngD0]; simpa using hl, Iv, h0, fun i e ε' h1 h2 => ?_, by rw [rngD0]; simpa using hd⟩
  rw [rngD0] at h1
  obtain ⟨a, ha, rfl⟩ := map_get h1
  obtain ⟨hi, rfl⟩ := List.getElem?_eq_some_iff.mp ha
  simp at hi ⊢
  exact hs i ε' hi h2
end
theorem cut_last {α : Type} (xs : List α) (h : xs ≠ []) : cut xs none (some (-1)) = xs.dropLast := by
  have hp : 0 < xs.length := List.length_pos_iff.mpr h
  have e : HT.sIx xs.length xs.length (some (-1)) = xs.length - 1 := by
    unfold HT.sIx
    simp
    omega
  unfold cut
  rw [HT.sIx_none, e, List.dropLast_eq_take]
  simp
/-- for each person those who hold a house that is better -/
def flX (V : HM) (x : List (Option Nat)) : List (List Nat) := (List.range V.rs.length).map fun p => (btr V x p).map fun c => (hld x c).getD 0
theorem flX_row {V : HM} {x : List (Option Nat)} {p : Nat} (hp : p < V.rs.length) : row (flX V x) p = (btr V x p).map fun c => (hld x c).getD 0 := by
  unfold row flX
  simp [hp]
theorem flX_len {V : HM} {x : List (Option Nat)} : (flX V x).length = V.rs.length := by simp [flX]
def Hld (V : HM) (x : List (Option Nat)) : Prop := ∀ p, p < V.rs.length → ∀ c ∈ btr V x p, ∃ q, oat x q = some c
theorem flX_mem {V : HM} {x : List (Option Nat)} (hx : One x) (hh : Hld V x) {p q : Nat} : q ∈ row (flX V x) p ↔ p < V.rs.length ∧ ∃ c ∈ btr V x p, oat x q = some c := by
  constructor
  · intro h
    have hp : p < V.rs.length := by have := row_of_mem h; rwa [flX_len] at this
    rw [flX_row hp] at h
    obtain ⟨c, hc, e⟩ := List.mem_map.mp h
    obtain ⟨t, ht⟩ := hh p hp c hc
    rw [(hld_iff hx t c).mp ht] at e
    have e2 : t = q := e
    subst e2
    exact ⟨hp, c, hc, ht⟩
  · rintro ⟨hp, c, hc, h⟩
    rw [flX_row hp]
    exact List.mem_map.mpr ⟨c, hc, by rw [(hld_iff hx q c).mp h]; rfl⟩
/-- a way back makes a chain -/
theorem pth_chn {V : HM} {x : List (Option Nat)} (hx : OutH V x) (hh : Hld V x) {p q : Nat} {w : List Nat} (hq : q ∈ row (flX V x) p) (hw : Pth (flX V x) q w p) : Chn V x (p :: w.dropLast) none := by
  have mem := fun {a b : Nat} => flX_mem (V := V) (x := x) hx.one hh (p := a) (q := b)
  have hp0 : 0 < w.length := (List.getElem?_eq_some_iff.mp hw.hd).1
  obtain ⟨ys, hys⟩ := List.getLast?_eq_some_iff.mp hw.la
  have hwe : w.dropLast ++ [p] = w := by rw [hys, List.dropLast_concat]
  have hnd := hw.nd
  rw [← hwe, List.nodup_append] at hnd
  have get : ∀ i : Nat, (p :: w.dropLast)[i + 1]? = if i + 1 < w.length then w[i]? else none := fun i => by
    rw [List.getElem?_cons_succ]
    split
    · rename_i h
      conv => rhs; rw [← hwe]
      rw [List.getElem?_append_left (by simp; omega)]
    · rename_i h
      exact List.getElem?_eq_none (by simp; omega)
  have lastw : w[w.length - 1]? = some p := by
    have := hw.la
    rwa [List.getLast?_eq_getElem?] at this
  -- from the i-th of the chain to the next
  have step : ∀ (i a : Nat), (p :: w.dropLast)[i]? = some a → ∃ b, w[i]? = some b ∧ b ∈ row (flX V x) a := fun i a ha => by
    cases i with
    | zero =>
      cases ha
      exact ⟨q, hw.hd, hq⟩
    | succ i =>
      rw [get i] at ha
      split at ha
      · rename_i h
        have h2 : w[i + 1]? = some w[i + 1] := List.getElem?_eq_getElem h
        exact ⟨_, h2, hw.st i a _ ha h2⟩
      · cases ha
  refine ⟨by simp, ?_, fun a ha => ?_, fun c e => (by cases e), fun i a ha => ?_⟩
  · rw [List.nodup_cons]
    exact ⟨fun hm => hnd.2.2 p hm p (by simp) rfl, hnd.1⟩
  · obtain ⟨i, hi⟩ := List.getElem?_of_mem ha
    obtain ⟨b, _, hb⟩ := step i a hi
    exact (mem.mp hb).1
  · obtain ⟨b, h1, h2⟩ := step i a ha
    obtain ⟨_, c, hc, hb⟩ := mem.mp h2
    refine ⟨c, ?_, hc⟩
    have hil := (List.getElem?_eq_some_iff.mp h1).1
    rcases Nat.lt_or_ge (i + 1) w.length with z | z
    · rw [gt_next (show (p :: w.dropLast)[i + 1]? = some b by rw [get i, if_pos z]; exact h1)]
      exact hb
    · rw [gt_last_none (by rw [get i, if_neg (by omega)]) rfl]
      have : i = w.length - 1 := by omega
      rw [this, lastw] at h1
      cases h1
      exact hb
/-- where nothing is free and no way leads back there is no chain -/
theorem no_chn {V : HM} {x : List (Option Nat)} (hx : OutH V x) (hh : Hld V x) (hr : ∀ p q, q ∈ row (flX V x) p → ¬ Rea (flX V x) q p) : ¬ ∃ pe la, Chn V x pe la := by
  rintro ⟨pe, la, hc⟩
  have mem := fun {a b : Nat} => flX_mem (V := V) (x := x) hx.one hh (p := a) (q := b)
  have hp0 : 0 < pe.length := List.length_pos_iff.mpr hc.ne
  -- each gets from the next one
  have step : ∀ (i a : Nat), pe[i]? = some a → ∃ b, b ∈ row (flX V x) a ∧ ((pe[i + 1]? = some b) ∨ (i + 1 = pe.length ∧ pe[0]? = some b)) := fun i a ha => by
    have hal := hc.lt a (List.mem_of_getElem? ha)
    obtain ⟨c, h1, h2⟩ := hc.gt i a ha
    obtain ⟨q, hq⟩ := hh a hal c h2
    refine ⟨q, mem.mpr ⟨hal, c, h2, hq⟩, ?_⟩
    rcases gt_from hx.one hc ha h1 hq with z | z
    · exact .inl z
    · exact .inr ⟨z.1, z.2.2⟩
  have h0 : pe[0]? = some pe[0] := List.getElem?_eq_getElem hp0
  obtain ⟨q, hq, h1⟩ := step 0 _ h0
  rcases h1 with h1 | h1
  · have reach : ∀ (i a : Nat), pe[i + 1]? = some a → Rea (flX V x) q a := fun i => by
      induction i with
      | zero =>
        intro a ha
        rw [h1] at ha
        cases ha
        exact .refl
      | succ i ih =>
        intro a ha
        have hl := (List.getElem?_eq_some_iff.mp ha).1
        have h2 : pe[i + 1]? = some pe[i + 1] := List.getElem?_eq_getElem (by omega)
        obtain ⟨b, hb, h3⟩ := step (i + 1) _ h2
        rcases h3 with h3 | h3
        · rw [ha] at h3
          cases h3
          exact .tail (ih _ h2) hb
        · omega
    have hl1 := (List.getElem?_eq_some_iff.mp h1).1
    have h2 : pe[pe.length - 2 + 1]? = some pe[pe.length - 2 + 1] := List.getElem?_eq_getElem (by omega)
    obtain ⟨b, hb, h3⟩ := step _ _ h2
    rcases h3 with h3 | h3
    · have := (List.getElem?_eq_some_iff.mp h3).1
      omega
    · rw [h0] at h3
      have e := Option.some.inj h3.2
      rw [← e] at hb
      exact hr _ _ hq (.tail (reach _ _ h2) hb)
  · rw [h0] at h1
    have e := Option.some.inj h1.2
    rw [← e] at hq
    exact hr _ _ hq .refl
def S_improving (C : Addr) : List Dat → (Dat → Prop) → Prop := fun ds P => ∃ (V : HM) (x : List (Option Nat)), ds = [pHm C V, outD x] ∧ V.Ok ∧ OutH V x ∧ (∀ pe la, Chn V x pe la → P (.tup [rk pe, oD la])) ∧ ((¬ ∃ pe la, Chn V x pe la) → P .non)
theorem len_improving {C : Addr} (ds : List Dat) (Q : Dat → Prop) (h : S_improving C ds Q) : ds.length = P_improving.length := by
  obtain ⟨V, x, rfl, _⟩ := h; rfl
section
variable {P : Program} {w : World} {K : PySem.W.Frag} {mg : Str → Option Value} {base : Heap}
theorem ok_improving (g : Fx K mg base) : FnOk P w K mg base L2.CX0 7 g.f_improving g.fd_improving P_improving (spF 0 (S_improving g.C_Homes)) := by
  refine okD g.F_improving sc_improving len_improving (fun cdv A outer s H E hr => ?_)
  have nd := (sc_improving).nd
  refine ⟨_, SDs.cost (sds_cons (sd_drop (pd_call (ok_check_homes g) (hr.mono (by decide)) (by rfl) g.g_check_homes g.F_check_homes.kp (b_check_homes g) (pad_cons (pd_var (pv 0)) pad_nil))) (sds_cons (sd_drop (pd_call (ok_check_outcome g) (hr.mono (by decide)) (by rfl) g.g_check_outcome g.F_check_outcome.kp (b_check_outcome g) (pad_cons (pd_var (pv 0)) (pad_cons (pd_var (pv 1)) pad_nil)))) (sds_cons (sd_asg (i := 2) (pd_callTy cr_range1 cd_range1 (by rfl) g.b_range boot_range (phd_cons ((pd_callB call_lenA cd_len (by rfl) g.b_len boot_len (phd_cons ((pd_var (pv 1))).toSh phd_nil))).toSh phd_nil)) nd rfl (.inl rfl)) (sds_cons (sd_setLc (i := 3) 64 rfl nd rfl rfl (by rfl) (pid_rng (pd_var (pv 2))) (blkOk_by (own := [("person", 4)]) (by kernel_rfl)) (fun _ _ _ _ _ => (pgd_name (i := 4) nd rfl (by first | exact .inl rfl | exact .inr rfl))) (fun _ _ _ _ _ => ptsd_nil) (fun _ _ _ _ _ => (pd_call (ok_better_houses g) (hr.mono (by decide)) (by rfl) g.g_better_houses g.F_better_houses.kp (b_better_houses g) (pad_cons (pd_var (pv 0)) (pad_cons (pd_var (pv 1)) (pad_cons (pd_var (pv 4)) pad_nil)))))) (sds_cons (((sd_for 64 PassesOwn.never rfl (pid_rng (pd_var (pv 2))) (pgd_name (i := 4) nd rfl (.inl rfl)) (sds_cons (sd_setLc (i := 5) 64 rfl nd rfl rfl (by rfl) (pid_tup (pd_ix (ix_all (ru1 hr)) od_ix ((pd_var (pv 3))).toSh ((pd_var (pv 4))).toSh (fun _ _ => rfl))) (blkOk_by (own := [("house", 10)]) (by kernel_rfl)) (fun _ _ _ _ _ => (pgd_name (i := 10) nd rfl (by first | exact .inl rfl | exact .inr rfl))) (fun _ _ _ _ _ => (ptsd_one (ptd_cmp (op_notinA (ru hr)) od_notin ((pd_var (pv 10))).toSh ((pd_var (pv 1))).toSh (by with_unfolding_all rfl)))) (fun _ _ _ _ _ => (pd_var (pv 10)))) (sds_cons (((sd_if (ptd_cmp (op_neD (ru0 hr)) od_ne ((pd_var (pv 5))).toSh ((pd_lst pad_nil)).toSh (nomark _)) (sds_cons (sd_ret (pd_tup (pad_cons (pd_tup (pad_cons (pd_var (pv 4)) pad_nil)) (pad_cons (pd_ix (ix_all (ru1 hr)) od_ix ((pd_var (pv 5))).toSh (pd_int).toSh (fun _ _ => rfl)) pad_nil)))) sds_nil) sds_nil)).frz 5) sds_nil)))).frz 3) (sds_cons (sd_setLc (i := 6) 64 rfl nd rfl rfl (by rfl) (pid_list (pd_var (pv 3))) (blkOk_by (own := [("row", 9)]) (by kernel_rfl)) (fun _ _ _ _ _ => (pgd_name (i := 9) nd rfl (by first | exact .inl rfl | exact .inr rfl))) (fun _ _ _ _ _ => ptsd_nil) (fun _ _ _ _ _ => ((pd_lc 64 rfl nd (pid_tup (pd_var (pv 9))) (blkOk_by (own := [("house", 10)]) (by kernel_rfl)) (fun _ _ _ _ _ => (pgd_name (i := 10) nd rfl (by first | exact .inl rfl | exact .inr rfl))) (fun _ _ _ _ _ => ptsd_nil) (fun _ _ _ _ _ => (pd_tindex (pd_var (pv 1)) (pd_var (pv 10)))))).frz)) (sds_cons (((sd_for 64 PassesOwn.never rfl (pid_rng (pd_var (pv 2))) (pgd_name (i := 4) nd rfl (.inl rfl)) (sds_cons (sd_for 64 PassesOwn.never rfl (pid_list (pd_ix (ix_all (ru1 hr)) od_ix ((pd_var (pv 6))).toSh ((pd_var (pv 4))).toSh (fun _ _ => rfl))) (pgd_name (i := 7) nd rfl (.inl rfl)) (sds_cons (sd_asg (i := 8) (pd_call (ok_way_to g) (hr.mono (by decide)) (by rfl) g.g_way_to g.F_way_to.kp (b_way_to g) (pad_cons (pd_var (pv 6)) (pad_cons (pd_var (pv 7)) (pad_cons (pd_var (pv 4)) pad_nil)))) nd rfl (.inl rfl)) (sds_cons (sd_if (ptd_cmp op_isnA od_isn ((pd_var (pv 8))).toSh (pd_non).toSh (nomark _)) (sds_cons (sd_ret (pd_tup (pad_cons (pd_tup (pad_cons (pd_var (pv 4)) (pad_star ((pd_slice ((pd_var (pv 8))).toSh pod_none (pod_some (pd_neg pd_int)))).toSh pad_nil))) (pad_cons pd_non pad_nil)))) sds_nil) sds_nil) sds_nil))) sds_nil))).frz 6) (sds_cons (sd_ret pd_non) sds_nil)))))))) (by decide), fun ds Q h => ?_⟩
  obtain ⟨V, x, rfl, ok, hx, hP, hN⟩ := h
  have hn := ok.wi.2.1
  have hxl := hx.len
  simp [pHm]
  refine ⟨_, rfl, V, x, rfl, ok, hx, ?_⟩
  refine lc_g (n := x.length) (fun p => some (rk (btr V x p))) (fun P h => ⟨_, rfl, h⟩) (by omega) (by omega) (fun p hp R hR => ?_) ?_
  · simp
    exact ⟨V, x, p, rfl, ok, hx, by omega, hR⟩
  rw [fm_map]
  have hbl : ∀ p, p < V.rs.length → (btr V x p).length ≤ 20 := fun p hp => by
    have h1 := (wnt_ok ok hp).2.2.1
    unfold btr
    split
    · exact h1
    · rw [List.length_take]; omega
  have hbet : ((List.range x.length).map fun p => rk (btr V x p)) = ((List.range V.rs.length).map (btr V x)).map rk := by rw [hxl, List.map_map]; rfl
  rw [hbet]
  have rowb : ∀ p, p < V.rs.length → row ((List.range V.rs.length).map (btr V x)) p = btr V x p := fun p hp => by simp [row, hp]
  have ixb : ∀ p, p < V.rs.length → ∀ R : Dat → Prop, R (rk (btr V x p)) → fIx (.lst (((List.range V.rs.length).map (btr V x)).map rk)) (nD p) R := fun p hp R h => by
    have h2 := fIx_rks (ls := (List.range V.rs.length).map (btr V x)) (a := p) (P := R) (by simpa using hp)
    rw [rowb p hp] at h2
    exact h2.mpr h
  have hbm : ∀ r ∈ (List.range V.rs.length).map (btr V x), ∃ p, p < V.rs.length ∧ r = btr V x p := fun r hr => by
    obtain ⟨p, h1, h2⟩ := List.mem_map.mp hr
    exact ⟨p, List.mem_range.mp h1, h2.symm⟩
  have hbn : ((List.range V.rs.length).map (btr V x)).length = V.rs.length := by simp
  have hfx : flX V x = ((List.range V.rs.length).map (btr V x)).map fun r => r.map fun c => (hld x c).getD 0 := by unfold flX; rw [List.map_map]; rfl
  generalize (List.range V.rs.length).map (btr V x) = bt at rowb ixb hbm hbn hfx ⊢
  refine for_g (n := x.length) (fun P h => ⟨_, rfl, h⟩) (by omega) (by omega) (fun i ε => ∃ x4 x5 x6 x7 x8 x9 x10 : Sl, ε = [.val (pHm g.C_Homes V), .val (outD x), .val (.rng 0 (x.length : Int)),   .val (.lst (bt.map rk)), x4, x5, x6, x7, x8, x9, x10] ∧ ∀ p, p < i → ∀ c ∈ btr V x p, ∃ q, oat x q = some c)
    ⟨_, _, _, _, _, _, _, rfl, fun p hp => by omega⟩ (fun p ε hp ⟨x4, x5, x6, x7, x8, x9, x10, hε, hd⟩ => ?_) (fun ε ⟨x4, x5, x6, x7, x8, x9, x10, hε, hd⟩ => ?_)
  · subst hε
    have hpn : p < V.rs.length := by omega
    simp
    refine DL.lc_tup (btr V x p) nD (fun c => if (!decide (some c ∈ x)) = true then some (nD c) else none) (fun P h => ⟨_, rfl, _, rfl, ixb p hpn _ h⟩) (by have := hbl p hpn; omega) (fun c hc R hR => ?_) ?_
    · simp
      refine fIn_out ?_
      by_cases e : some c ∈ x
      · exact .inl ⟨by simp [e], by simpa [e] using hR⟩
      · exact .inr ⟨by simp [e], by simpa [e] using hR⟩
    · rw [fm_if]
      simp
      rw [eqD_lnil]
      cases e : (btr V x p).filter fun c => !decide (some c ∈ x) with
      | nil =>
        refine .inl ⟨by simp, fun q hq c hc => ?_⟩
        by_cases z : q = p
        · subst z
          have : c ∉ (btr V x q).filter fun c => !decide (some c ∈ x) := by rw [e]; simp
          rw [List.mem_filter] at this
          have hm : some c ∈ x := Classical.byContradiction fun hn => this ⟨hc, by simp [hn]⟩
          exact mem_oat_iff.mp hm
        · exact hd q (by omega) c hc
      | cons c t =>
        have hc : c ∈ (btr V x p).filter fun c => !decide (some c ∈ x) := by rw [e]; simp
        obtain ⟨h1, h2⟩ := List.mem_filter.mp hc
        have hno : ∀ q, oat x q ≠ some c := fun q hq => by
          have := mem_oat_iff.mpr ⟨q, hq⟩
          simp [this] at h2
        refine .inr ⟨by simp, ix_hd (l := c :: t) rfl ?_⟩
        have := hP [p] (some c) ⟨by simp, by simp, by simpa using hpn, fun d e q => (by cases e; exact hno q), fun i q hq => by
          cases i with
          | zero =>
            simp at hq
            subst hq
            exact ⟨c, gt_last_some (by simp) rfl, h1⟩
          | succ i => simp at hq⟩
        simpa [rk, oD] using this
  · subst hε
    have hh : Hld V x := fun p hp => hd p (by omega)
    simp
    refine lc_lst bt rk (fun r => some (.lst ((r.map fun c => (hld x c).getD 0).map nD))) (fun P h => ⟨_, rfl, h⟩) (by omega) (fun r hr R hR => ?_) ?_
    · obtain ⟨p, hp, rfl⟩ := hbm r hr
      simp
      refine DL.lc_tup (btr V x p) nD (fun c => some (nD ((hld x c).getD 0))) (fun P h => ⟨_, rfl, h⟩) (by have := hbl p hp; omega) (fun c hc R hR => ?_) ?_
      · obtain ⟨q, hq⟩ := hh p hp c hc
        rw [(hld_iff hx.one q c).mp hq] at hR
        simp
        exact ⟨_, rfl, by simp, q, oD (some c), (tix_out hx.one hq).1, by simp [oD], (tix_out hx.one hq).2, hR⟩
      · rw [fm_map]
        have e : ((btr V x p).map fun c => nD ((hld x c).getD 0)) = ((btr V x p).map fun c => (hld x c).getD 0).map nD := by rw [List.map_map]; rfl
        rw [e]
        exact hR
    · rw [fm_map]
      have e : (bt.map fun r => Dat.lst ((r.map fun c => (hld x c).getD 0).map nD)) = (flX V x).map fun r => Dat.lst (r.map nD) := by rw [hfx, List.map_map]; rfl
      rw [e]
      have hfr : ∀ a, (row (flX V x) a).length ≤ 60 := fun a => by
        rcases Nat.lt_or_ge a V.rs.length with z | z
        · rw [flX_row z, List.length_map]
          have := hbl a z
          omega
        · rw [row_out (by rw [flX_len]; exact z)]; simp
      have hfl : ∀ a b, b ∈ row (flX V x) a → b < (flX V x).length := fun a b h => by
        rw [flX_len]
        obtain ⟨_, c, _, hb⟩ := (flX_mem hx.one hh).mp h
        exact (hx.lt ok hb).1
      refine for_g (n := x.length) (fun P h => ⟨_, rfl, h⟩) (by omega) (by omega) (fun i ε => ∃ x4 x7 x8 x9 x10 : Sl, ε = [.val (pHm g.C_Homes V), .val (outD x), .val (.rng 0 (x.length : Int)), .val (.lst (bt.map rk)), x4, x5, .val (heldD (flX V x)), x7, x8, x9, x10] ∧ ∀ p, p < i → ∀ q, q ∈ row (flX V x) p → ¬ Rea (flX V x) q p)
        ⟨_, _, _, _, _, rfl, fun p hp => by omega⟩ (fun p ε hp ⟨x4, x7, x8, x9, x10, hε, hd⟩ => ?_) (fun ε ⟨x4, x7, x8, x9, x10, hε, hd⟩ => ?_)
      · subst hε
        have hpf : p < (flX V x).length := by rw [flX_len]; omega
        simp
        refine for_mapL (row (flX V x) p) nD (fun P h => ⟨_, rfl, _, rfl, Eq.mpr (fIx_held hpf) h⟩) (by have := hfr p; omega) (fun t ε => ∃ x7 x8 x9 x10 : Sl, ε = [.val (pHm g.C_Homes V), .val (outD x), .val (.rng 0 (x.length : Int)), .val (.lst (bt.map rk)), .val (nD p), x5, .val (heldD (flX V x)), x7, x8, x9, x10] ∧ (∀ p', p' < p → ∀ q, q ∈ row (flX V x) p' → ¬ Rea (flX V x) q p') ∧ ∀ q ∈ (row (flX V x) p).take t, ¬ Rea (flX V x) q p)
          ⟨x7, x8, x9, x10, rfl, hd, by simp⟩ (fun t q ε hq ⟨x7, x8, x9, x10, hε, hd, hd2⟩ => ?_) (fun ε ⟨x7, x8, x9, x10, hε, hd, hd2⟩ => ?_)
        · subst hε
          have hqm := List.mem_of_getElem? hq
          have hqt : (row (flX V x) p).take (t + 1) = (row (flX V x) p).take t ++ [q] := by rw [List.take_add_one, hq]; rfl
          simp
          refine ⟨flX V x, q, p, rfl, hfl, hfl p q hqm, by rw [flX_len]; omega, hfr, fun w hw => ?_, fun hno => ?_⟩
          · have hc := hP _ _ (pth_chn hx hh hqm hw)
            have hp0 : 0 < w.length := (List.getElem?_eq_some_iff.mp hw.hd).1
            have hwl : w.length ≤ 100000 := by
              have hlt : ∀ a ∈ w, a < V.rs.length := fun a ha => by
                obtain ⟨i, hi⟩ := List.getElem?_of_mem ha
                cases i with
                | zero =>
                  rw [hw.hd] at hi
                  cases hi
                  have := hfl p q hqm
                  rwa [flX_len] at this
                | succ i =>
                  have hl := (List.getElem?_eq_some_iff.mp hi).1
                  have h2 : w[i]? = some w[i] := List.getElem?_eq_getElem (by omega)
                  have := hfl _ _ (hw.st i _ a h2 hi)
                  rwa [flX_len] at this
              have := nd_len hw.nd hlt
              omega
            refine .inr ⟨rfl, ?_⟩
            have sl : ∀ (lo hi : Option Int) (R : Dat → Prop), fSl (rk w) lo hi R = R (.tup (cut (w.map nD) lo hi)) := fun _ _ _ => rfl
            rw [sl, cut_last _ (fun e => by have := congrArg List.length e; simp at this; rw [this] at hp0; simp at hp0)]
            refine ⟨_, .inr rfl, by simp; omega, ?_⟩
            have e : Dat.tup (nD p :: (w.map nD).dropLast) = rk (p :: w.dropLast) := by simp [rk, List.dropLast_eq_take]
            rw [e]
            exact hc
          · refine .inl ⟨rfl, hd, fun a ha => ?_⟩
            rw [hqt] at ha
            rcases List.mem_append.mp ha with z | z
            · exact hd2 a z
            · rw [List.mem_singleton.mp z]; exact hno
        · subst hε
          rw [List.take_length] at hd2
          simp
          intro p' hp' q hq
          by_cases z : p' = p
          · subst z; exact hd2 q hq
          · exact hd p' (by omega) q hq
      · subst hε
        simp
        exact hN (no_chn hx hh fun p q h => hd p (by have := ((flX_mem hx.one hh).mp h).1; omega) q h)
end
end K92
set_option maxRecDepth 100000
set_option maxHeartbeats 1000000
namespace K92
open PySem PySem.Spec PyProof.Rows L2 RZ DL LamX
open C8 (call_isC pe_gc InsC)
open M90
variable [TabC]
/-- what each of a chain gets, in a list -/
def gtL (x : List (Option Nat)) (pe : List Nat) (la : Option Nat) : List (Option Nat) := pe.tail.map (oat x) ++ [match la with
  | none => oat x (pe.headD 0)
  | some c => some c]
theorem gtL_len {x : List (Option Nat)} {pe : List Nat} {la : Option Nat} (h : pe ≠ []) : (gtL x pe la).length = pe.length := by
  have hp : 0 < pe.length := List.length_pos_iff.mpr h
  simp [gtL]
  omega
theorem gtL_get {x : List (Option Nat)} {pe : List Nat} {la : Option Nat} {i : Nat} (h : i < pe.length) : (gtL x pe la)[i]? = some (gtO x pe la i) := by
  unfold gtL
  rcases Nat.lt_or_ge (i + 1) pe.length with z | z
  · rw [List.getElem?_append_left (by simp; omega)]
    have e : pe[i + 1]? = some pe[i + 1] := List.getElem?_eq_getElem z
    rw [gt_next e, List.getElem?_map, List.getElem?_tail, e]
    rfl
  · have hi : i + 1 = pe.length := by omega
    have e : pe[i + 1]? = none := List.getElem?_eq_none (by omega)
    have hl : (pe.tail.map (oat x)).length = i := by simp; omega
    rw [List.getElem?_append_right (by omega), hl, Nat.sub_self]
    cases la with
    | none => rw [gt_last_none e rfl]; rfl
    | some c => rw [gt_last_some e rfl]; rfl
theorem zip_gt {x : List (Option Nat)} {pe : List Nat} {la : Option Nat} (h : pe ≠ []) : zipD (pe.map nD) ((gtL x pe la).map oD) = (List.range pe.length).map fun i => .tup [nD (at0 pe i), oD (gtO x pe la i)] := by
  apply List.ext_getElem?
  intro i
  rcases Nat.lt_or_ge i pe.length with z | z
  · rw [zipD_get (x := nD (at0 pe i)) (y := oD (gtO x pe la i)) (by simp [at0, z]) (by rw [List.getElem?_map, gtL_get z]; rfl)]
    simp [z]
  · rw [List.getElem?_eq_none (by rw [zipD_len]; simp [gtL_len h]; omega), List.getElem?_eq_none (by simpa using z)]
theorem fIn_orow {neg : Bool} {o : Option Nat} {r : List Nat} {P : Dat → Prop} (h : P (.bl (neg != match o with
  | none => false
  | some c => decide (c ∈ r)))) : fIn neg (oD o) (rk r) P := by
  cases o with
  | some c => exact Eq.mpr (fIn_rk (neg := neg) (r := r) (a := c)) h
  | none =>
    refine ⟨rfl, by simp, ?_⟩
    have : ((r.map nD).any fun z => eqD z (oD none)) = false := by
      rw [List.any_eq_false]
      intro z hz
      obtain ⟨a, _, rfl⟩ := List.mem_map.mp hz
      simp [oD, eqD, nD]
    rw [this]
    exact h
def inB (o : Option Nat) (r : List Nat) : Bool := match o with
  | none => false
  | some c => decide (c ∈ r)
theorem inB_iff {o : Option Nat} {r : List Nat} : inB o r = true ↔ ∃ c, o = some c ∧ c ∈ r := by
  cases o <;> simp [inB]
theorem chn_all {V : HM} {x : List (Option Nat)} {pe : List Nat} {la : Option Nat} (hne : pe ≠ []) (hnd : pe.Nodup) (hlt : ∀ p ∈ pe, p < V.rs.length) (hla : ∀ c, la = some c → ∀ p, oat x p ≠ some c) : decP (Chn V x pe la) = ((List.range pe.length).map fun i => inB (gtO x pe la i) (btr V x (at0 pe i))).all id := by
  rw [Bool.eq_iff_iff, decP_iff, List.all_eq_true]
  constructor
  · intro hc b hb
    obtain ⟨i, hi, rfl⟩ := List.mem_map.mp hb
    have hi := List.mem_range.mp hi
    exact inB_iff.mpr (hc.gt i _ (at0_get hi))
  · intro h
    refine ⟨hne, hnd, hlt, hla, fun i p hp => ?_⟩
    have hi := (List.getElem?_eq_some_iff.mp hp).1
    have := inB_iff.mp (h _ (List.mem_map.mpr ⟨i, List.mem_range.mpr hi, rfl⟩))
    rw [at0_get hi] at hp
    rw [← Option.some.inj hp]
    exact this
theorem lc_zm {α : Type} {M : Nat} {Te : TD} {U : TAD} {G : GD} {Tt : TTD} {ε : Ev} {vs : List Nat} {P : Dat → Prop} {xs ys : List Dat} (l : List α) (F : α → Dat) (g : α → Option Dat) (hT : ∀ P : List Dat → Prop, P [.tup xs, .lst ys] → U ε P) (he : zipD xs ys = l.map F) (hl : l.length ≤ M)
    (h : ∀ a ∈ l, ∀ R : Option Dat → Prop, R (g a) → G (F a) (wipeD ε vs) fun ε2 => Tt ε2 fun b => if b = true then Te ε2 fun y => R (some y) else R none) (hP : P (.lst (l.filterMap g))) : dLc M (iZm U) G Tt Te vs ε P :=
  hT _ ⟨xs, ys, rfl, lcm (Pl := fun a => P (.lst a)) l F g he hl h hP⟩
def S_is_improving (C : Addr) : List Dat → (Dat → Prop) → Prop := fun ds P => ∃ (V : HM) (x : List (Option Nat)) (pe : List Nat) (la : Option Nat), ds = [pHm C V, outD x, .tup [rk pe, oD la]] ∧ V.Ok ∧ OutH V x ∧ pe ≠ [] ∧ pe.Nodup ∧ (∀ p ∈ pe, p < V.rs.length) ∧ (∀ c, la = some c → c < V.hs) ∧ P (.bl (decP (Chn V x pe la)))
theorem len_is_improving {C : Addr} (ds : List Dat) (Q : Dat → Prop) (h : S_is_improving C ds Q) : ds.length = P_is_improving.length := by
  obtain ⟨V, x, pe, la, rfl, _⟩ := h; rfl
section
variable {P : Program} {w : World} {K : PySem.W.Frag} {mg : Str → Option Value} {base : Heap}
theorem ok_is_improving (g : Fx K mg base) : FnOk P w K mg base L2.CX0 7 g.f_is_improving g.fd_is_improving P_is_improving (spF 0 (S_is_improving g.C_Homes)) := by
  refine okD g.F_is_improving sc_is_improving len_is_improving (fun cdv A outer s H E hr => ?_)
  have nd := (sc_is_improving).nd
  refine ⟨_, SDs.cost (sds_cons (sd_drop (pd_call (ok_check_homes g) (hr.mono (by decide)) (by rfl) g.g_check_homes g.F_check_homes.kp (b_check_homes g) (pad_cons (pd_var (pv 0)) pad_nil))) (sds_cons (sd_drop (pd_call (ok_check_outcome g) (hr.mono (by decide)) (by rfl) g.g_check_outcome g.F_check_outcome.kp (b_check_outcome g) (pad_cons (pd_var (pv 0)) (pad_cons (pd_var (pv 1)) pad_nil)))) (sds_cons (sd_if ((pwd_or (ptd_not (ptd_val (pd_callB call_isi cd_isi (by rfl) g.b_isinstance boot_isinstance (phd_cons ((pd_var (pv 2))).toSh (phd_cons ((pd_ty (pe_bltn (by rfl) g.b_tuple boot_tuple rfl))).toSh phd_nil))))) (pwd_or (ptd_cmp (op_neD (ru0 hr)) od_ne ((pd_callB call_lenA cd_len (by rfl) g.b_len boot_len (phd_cons ((pd_var (pv 2))).toSh phd_nil))).toSh (pd_int).toSh (nomark _)) (pwd_or (ptd_not (ptd_val (pd_callB call_isi cd_isi (by rfl) g.b_isinstance boot_isinstance (phd_cons ((pd_ix (ix_all (ru1 hr)) od_ix ((pd_var (pv 2))).toSh (pd_int).toSh (fun _ _ => rfl))).toSh (phd_cons ((pd_ty (pe_bltn (by rfl) g.b_tuple boot_tuple rfl))).toSh phd_nil))))) (pwd_or1 (ptd_cmp (op_eqD (ru0 hr)) od_eq ((pd_ix (ix_all (ru1 hr)) od_ix ((pd_var (pv 2))).toSh (pd_int).toSh (fun _ _ => rfl))).toSh ((pd_tup pad_nil)).toSh (nomark _))))))).pt (sds_cons (sd_ret pd_bl) sds_nil) sds_nil) (sds_cons (sd_asgG (pd_var (pv 2)) (pgd_tup (n := 2) rfl (pgsd_cons (pgd_name (i := 3) nd rfl (.inl rfl)) (pgsd_cons (pgd_name (i := 4) nd rfl (.inl rfl)) pgsd_nil)))) (sds_cons (sd_if (ptd_not (ptd_val (pd_call (ok_is_ranking g) (hr.mono (by decide)) (by rfl) g.g_is_ranking g.F_is_ranking.kp (b_is_ranking g) (pad_cons (pd_var (pv 3)) (pad_cons (pd_callB call_lenA cd_len (by rfl) g.b_len boot_len (phd_cons ((pd_var (pv 1))).toSh phd_nil)) pad_nil))))) (sds_cons (sd_ret pd_bl) sds_nil) sds_nil) (sds_cons (sd_if ((pwd_and (ptd_cmp op_isnA od_isn ((pd_var (pv 4))).toSh (pd_non).toSh (nomark _)) (pwd_and1 ((pwd_or (ptd_not (ptd_val (pd_call (ok_is_below g) (hr.mono (by decide)) (by rfl) g.g_is_below g.F_is_below.kp (b_is_below g) (pad_cons (pd_var (pv 4)) (pad_cons (pd_fld g.cl_Homes g.na_Homes_houses (pd_var (pv 0))) pad_nil))))) (pwd_or1 (ptd_cmp (op_inA (ru hr)) od_in ((pd_var (pv 4))).toSh ((pd_var (pv 1))).toSh (by with_unfolding_all rfl))))).pt))).pt (sds_cons (sd_ret pd_bl) sds_nil) sds_nil) (sds_cons (sd_asg (i := 5) (pd_op op_addA od_add ((pd_lc 64 rfl nd (pid_tup (pd_slice ((pd_var (pv 3))).toSh (pod_some pd_int) pod_none)) (blkOk_by (own := [("person", 6)]) (by kernel_rfl)) (fun _ _ _ _ _ => (pgd_name (i := 6) nd rfl (by first | exact .inl rfl | exact .inr rfl))) (fun _ _ _ _ _ => ptsd_nil) (fun _ _ _ _ _ => (pd_ix (ix_all (ru1 hr)) od_ix ((pd_var (pv 1))).toSh ((pd_var (pv 6))).toSh (fun _ _ => rfl))))).toSh ((pd_lst (pad_cons (pd_if (ptd_cmp op_isA od_is ((pd_var (pv 4))).toSh (pd_non).toSh (nomark _)) (pd_ix (ix_all (ru1 hr)) od_ix ((pd_var (pv 1))).toSh ((pd_ix (ix_all (ru1 hr)) od_ix ((pd_var (pv 3))).toSh (pd_int).toSh (fun _ _ => rfl))).toSh (fun _ _ => rfl)) (pd_var (pv 4))) pad_nil))).toSh) nd rfl (.inl rfl)) (sds_cons (sd_ret (pd_callB (cr_all rfl) cd_all (by rfl) g.b_all boot_all (phd_cons ((pd_lc 64 rfl nd (pid_zipM (by rfl) g.b_zip (pad_cons (pd_var (pv 3)) (pad_cons (pd_var (pv 5)) pad_nil))) (blkOk_by (own := [("person", 6), ("house", 7)]) (by kernel_rfl)) (fun _ _ _ _ _ => (pgd_tup (n := 2) rfl (pgsd_cons (pgd_name (i := 6) nd rfl (by first | exact .inl rfl | exact .inr rfl)) (pgsd_cons (pgd_name (i := 7) nd rfl (by first | exact .inl rfl | exact .inr rfl)) pgsd_nil)))) (fun _ _ _ _ _ => ptsd_nil) (fun _ _ _ _ _ => (pd_cmp (op_inA (ru hr)) od_in ((pd_var (pv 7))).toSh ((pd_call (ok_better_houses g) (hr.mono (by decide)) (by rfl) g.g_better_houses g.F_better_houses.kp (b_better_houses g) (pad_cons (pd_var (pv 0)) (pad_cons (pd_var (pv 1)) (pad_cons (pd_var (pv 6)) pad_nil))))).toSh (by with_unfolding_all rfl))))).toSh phd_nil))) sds_nil)))))))) (by decide), fun ds Q h => ?_⟩
  obtain ⟨V, x, pe, la, rfl, ok, hx, hne, hnd, hlt, hla, hQ⟩ := h
  have hn := ok.wi.2.1
  have h20 := ok.h20
  have hxl := hx.len
  have hpl := nd_len hnd hlt
  simp [pHm]
  have hat : atI [rk pe, oD la] 0 = some (rk pe) := show atI _ ((0 : Nat) : Int) = _ from atI_nat rfl
  have heq : eqD (rk pe) (Dat.tup []) = false := by
    show eqD (.tup (pe.map nD)) (.tup []) = false
    rw [eqD_tnil]
    simp [hne]
  have hp0 : 0 < pe.length := List.length_pos_iff.mpr hne
  refine ⟨_, rfl, V, x, rfl, ok, hx, rk pe, hat, "tuple", rfl, .inr ⟨rfl, rk pe, hat, pl_rk, .inl ⟨heq, pe, x.length, rfl, ⟨hnd, by rw [hxl]; exact hlt, by omega⟩, .inr ⟨rfl, ?_⟩⟩⟩⟩
  have comp : ∀ R : Dat → Prop, R (.lst ((pe.tail.map (oat x)).map oD)) → dLc 64 (iT (dSl (dVar 3) (oSome (dC (Dat.int 1))) oNone)) (gN 6) dYes (dOp fIx (dVar 1) (dVar 6)) [6] [Sl.val (Dat.obj g.C_Homes (fsH V)), Sl.val (outD x), Sl.val (Dat.tup [rk pe, oD la]), Sl.val (rk pe), Sl.val (oD la), Sl.off, Sl.off, Sl.off] R := fun R h => by
    refine DL.lc_tup pe.tail nD (fun p => some (oD (oat x p))) (fun P h => ?_) (by simp; omega) (fun p hp R hR => ?_) ?_
    · refine ⟨_, rfl, _, rfl, ?_⟩
      have sl : ∀ (lo hi : Option Int) (R : Dat → Prop), fSl (rk pe) lo hi R = R (.tup (cut (pe.map nD) lo hi)) := fun _ _ _ => rfl
      show fSl (rk pe) (some 1) none P
      rw [sl, cut1, ← List.map_tail]
      exact h
    · have := hlt p (List.mem_of_mem_tail hp)
      simp
      exact Eq.mpr (fIx_out (by omega)) hR
    · rw [fm_map]
      rw [List.map_map] at h
      exact h
  have fin : (∀ c, la = some c → ∀ p, oat x p ≠ some c) → dLc 64 (iZm (aCons (dVar 3) (aCons (dVar 5) aNil))) (gTupD 2 (gConsD (gN 6) (gConsD (gN 7) gNilD))) dYes
      (dOp (fIn false) (dVar 7) (dCall (S_better_houses g.C_Homes) (aCons (dVar 0) (aCons (dVar 1) (aCons (dVar 6) aNil))))) [6, 7]
      [Sl.val (Dat.obj g.C_Homes (fsH V)), Sl.val (outD x), Sl.val (Dat.tup [rk pe, oD la]), Sl.val (rk pe), Sl.val (oD la), Sl.val (.lst ((gtL x pe la).map oD)), Sl.off, Sl.off] fun d => fAll [d] Q := fun hno => by
    refine lc_zm (xs := pe.map nD) (ys := (gtL x pe la).map oD) (List.range pe.length) _ (fun i => some (.bl (inB (gtO x pe la i) (btr V x (at0 pe i))))) (fun P h => ⟨_, rfl, _, rfl, h⟩) (zip_gt hne) (by simp; omega) (fun i hi R hR => ?_) ?_
    · have hi := List.mem_range.mp hi
      have hpi := hlt _ (at0_mem hi)
      simp
      refine ⟨V, x, at0 pe i, rfl, ok, hx, hpi, fIn_orow ?_⟩
      simpa [inB] using hR
    · rw [fm_map]
      rw [chn_all hne hnd hlt hno] at hQ
      have e : ((List.range pe.length).map fun i => Dat.bl (inB (gtO x pe la i) (btr V x (at0 pe i)))) = ((List.range pe.length).map fun i => inB (gtO x pe la i) (btr V x (at0 pe i))).map Dat.bl := by rw [List.map_map]; rfl
      rw [e]
      exact ⟨_, DL.bls_map _, hQ⟩
  cases la with
  | none =>
    refine .inl ⟨rfl, comp _ (.inr ⟨rfl, ?_⟩)⟩
    refine Eq.mpr (fIx_rk (r := pe) (a := 0) hp0) (Eq.mpr (fIx_out (by have := hlt _ (at0_mem hp0); omega)) ?_)
    have e0 : at0 pe 0 = pe.headD 0 := by cases pe <;> rfl
    have h9 := fin (fun c e => by cases e)
    refine ⟨by simp; omega, ?_⟩
    have e : (pe.tail.map (oat x)).map oD ++ [oD (oat x (at0 pe 0))] = (gtL x pe none).map oD := by rw [e0]; simp [gtL]
    rw [e]
    exact h9
  | some c =>
    have hc := hla c rfl
    refine .inr ⟨rfl, (c : Int), (V.hs : Int), rfl, .inr ⟨by simp; omega, ?_⟩⟩
    refine fIn_out (r := c) ?_
    by_cases hm : some c ∈ x
    · refine .inr ⟨by simp [hm], ?_⟩
      have : decP (Chn V x pe (some c)) = false := by
        cases q : decP (Chn V x pe (some c)) with
        | false => rfl
        | true =>
          obtain ⟨p, hp⟩ := mem_oat_iff.mp hm
          exact ((decP_iff.mp q).out c rfl p hp).elim
      rw [this] at hQ
      exact hQ
    · have h9 := fin (fun d e p hp => by cases e; exact hm (mem_oat_iff.mpr ⟨p, hp⟩))
      refine .inl ⟨by simp [hm], comp _ (.inl ⟨rfl, by simp; omega, ?_⟩)⟩
      have e : (pe.tail.map (oat x)).map oD ++ [oD (some c)] = (gtL x pe (some c)).map oD := by simp [gtL]
      rw [e]
      exact h9
end
end K92
set_option maxRecDepth 100000
set_option maxHeartbeats 1000000
namespace K92
open PySem PySem.Spec PyProof.Rows L2 RZ DL LamX
open C8 (call_isC pe_gc InsC)
open M90
variable [TabC]
def wntO (r : List Nat) : Option Nat → List Nat
  | none => r
  | some o => wntL r o
def S__law_wanted : List Dat → (Dat → Prop) → Prop := fun ds P => ∃ (r : List Nat) (o : Option Nat), ds = [rk r, oD o] ∧ r.length ≤ 100 ∧ P (rk (wntO r o))
theorem len__law_wanted (ds : List Dat) (Q : Dat → Prop) (h : S__law_wanted ds Q) : ds.length = P__law_wanted.length := by
  obtain ⟨d, a, rfl, _⟩ := h; rfl
section
variable {P : Program} {w : World} {K : PySem.W.Frag} {mg : Str → Option Value} {base : Heap}
theorem ok__law_wanted (g : Fx K mg base) : FnOk P w K mg base L2.CX0 1 g.f__law_wanted g.fd__law_wanted P__law_wanted (spF 0 S__law_wanted) := by
  refine okD g.F__law_wanted sc__law_wanted len__law_wanted (fun cdv A outer s H E hr => ?_)
  have nd := (sc__law_wanted).nd
  refine ⟨_, SDs.cost (sds_cons (sd_if (ptd_cmp op_isA od_is ((pd_var (pv 1))).toSh (pd_non).toSh (nomark _)) (sds_cons (sd_ret (pd_var (pv 0))) sds_nil) sds_nil) (sds_cons (sd_ret (pd_if (ptd_cmp (op_inA (ru hr)) od_in ((pd_var (pv 1))).toSh ((pd_var (pv 0))).toSh (by with_unfolding_all rfl)) (pd_slice ((pd_var (pv 0))).toSh pod_none (pod_some (pd_op op_addA od_add ((pd_tindex (pd_var (pv 0)) (pd_var (pv 1)))).toSh (pd_int).toSh))) (pd_op op_addA od_add ((pd_var (pv 0))).toSh ((pd_tup (pad_cons (pd_var (pv 1)) pad_nil))).toSh))) sds_nil)) (by decide), fun ds Q h => ?_⟩
  obtain ⟨r, o, rfl, hl, hQ⟩ := h
  simp
  cases o with
  | none => exact .inr ⟨rfl, hQ⟩
  | some o =>
    refine .inl ⟨rfl, Eq.mpr (fIn_rk (neg := false) (r := r) (a := o)) ?_⟩
    by_cases e : o ∈ r
    · refine .inr ⟨by simp [e], _, rfl, by simp, ixo r o, nD o, (dTIx_at e).1, by simp [oD], fun m z h1 h2 => by simpa [oD] using (dTIx_at e).2 m z h1 h2, ixo_cut ?_⟩
      simpa [wntO, wntL, e] using hQ
    · refine .inl ⟨by simp [e], ?_⟩
      have h9 : fAdd (.tup (r.map nD)) (.tup [nD o]) Q := ⟨by simp; omega, by simpa [wntO, wntL, e, rk] using hQ⟩
      exact h9
end
def btrB (w : List Nat) (a b : Option Nat) : Bool := inB a w && (match a, b with
  | some a, some b => decide (ixo w a < ixo w b)
  | _, _ => true)
def S__law_better : List Dat → (Dat → Prop) → Prop := fun ds P => ∃ (w : List Nat) (a b : Option Nat), ds = [rk w, oD a, oD b] ∧ (∀ c, b = some c → c ∈ w) ∧ P (.bl (btrB w a b))
theorem len__law_better (ds : List Dat) (Q : Dat → Prop) (h : S__law_better ds Q) : ds.length = P__law_better.length := by
  obtain ⟨d, a, b, rfl, _⟩ := h; rfl
section
variable {P : Program} {w : World} {K : PySem.W.Frag} {mg : Str → Option Value} {base : Heap}
theorem ok__law_better (g : Fx K mg base) : FnOk P w K mg base L2.CX0 1 g.f__law_better g.fd__law_better P__law_better (spF 0 S__law_better) := by
  refine okD g.F__law_better sc__law_better len__law_better (fun cdv A outer s H E hr => ?_)
  have nd := (sc__law_better).nd
  refine ⟨_, SDs.cost (sds_cons (sd_ret (pd_and (pd_cmp (op_inA (ru hr)) od_in ((pd_var (pv 1))).toSh ((pd_var (pv 0))).toSh (by with_unfolding_all rfl)) (pd_one (pd_or (pd_cmp op_isA od_is ((pd_var (pv 2))).toSh (pd_non).toSh (nomark _)) (pd_one (pd_cmp op_lt od_C ((pd_tindex (pd_var (pv 0)) (pd_var (pv 1)))).toSh ((pd_tindex (pd_var (pv 0)) (pd_var (pv 2)))).toSh (nomark _))))))) sds_nil) (by decide), fun ds Q h => ?_⟩
  obtain ⟨w, a, b, rfl, hb, hQ⟩ := h
  simp
  refine fIn_orow ?_
  cases a with
  | none => exact .inl ⟨rfl, hQ⟩
  | some a =>
    by_cases ha : a ∈ w
    · refine .inr ⟨by simp [ha], ?_⟩
      cases b with
      | none => exact .inr ⟨rfl, by simpa [btrB, inB, ha] using hQ⟩
      | some b =>
        have hbw := hb b rfl
        refine .inl ⟨rfl, _, rfl, by simp, ixo w a, nD a, (dTIx_at ha).1, by simp [oD], fun m z h1 h2 => by simpa [oD] using (dTIx_at ha).2 m z h1 h2, _, rfl, by simp, ixo w b, nD b, (dTIx_at hbw).1, by simp [oD], fun m z h1 h2 => by simpa [oD] using (dTIx_at hbw).2 m z h1 h2, ?_⟩
        simpa [btrB, inB, ha] using hQ
    · exact .inl ⟨by simp [ha], by simpa [btrB, inB, ha] using hQ⟩
end
structure OutW (W : List (List Nat)) (y : List (Option Nat)) : Prop where
  len : y.length = W.length
  one : One y
  want : ∀ p q, oat y p = some q → q ∈ row W p
/-- the outcomes of the first persons, one by one -/
def exW (w : List Nat) (o : List (Option Nat)) : List (Option Nat) := none :: (w.filter fun c => !decide (some c ∈ o)).map some
def genW (W : List (List Nat)) : Nat → List (List (Option Nat))
  | 0 => [[]]
  | i + 1 => (genW W i).flatMap fun o => (exW (row W i) o).map fun x => o ++ [x]
def Prw (W : List (List Nat)) (i : Nat) (o : List (Option Nat)) : Prop := o.length = i ∧ One o ∧ ∀ p q, oat o p = some q → q ∈ row W p
theorem mem_exW {w : List Nat} {o : List (Option Nat)} {x : Option Nat} : x ∈ exW w o ↔ ∀ c, x = some c → c ∈ w ∧ some c ∉ o := by
  cases x with
  | none => simp [exW]
  | some c => simp [exW]
theorem mem_genW {W : List (List Nat)} : ∀ {i : Nat} {o : List (Option Nat)}, o ∈ genW W i ↔ Prw W i o
  | 0, o => by
    simp only [genW, List.mem_singleton]
    constructor
    · rintro rfl
      exact ⟨rfl, fun l y r h => by simp [oat] at h, fun l r h => by simp [oat] at h⟩
    · rintro ⟨h, _⟩; exact List.eq_nil_of_length_eq_zero h
  | i + 1, o => by
    simp only [genW, List.mem_flatMap, List.mem_map]
    constructor
    · rintro ⟨p, hp, x, hx, rfl⟩
      obtain ⟨h1, h3, h2⟩ := mem_genW.mp hp
      have hx2 := mem_exW.mp hx
      refine ⟨by simp [h1], fun l y r e1 e2 => ?_, fun l r e => ?_⟩
      · rw [oat_app] at e1 e2
        split at e1
        · split at e2
          · exact h3 l y r e1 e2
          · split at e2
            · exact ((hx2 r e2).2 (mem_oat_iff.mpr ⟨l, e1⟩)).elim
            · cases e2
        · split at e1
          · split at e2
            · exact ((hx2 r e1).2 (mem_oat_iff.mpr ⟨y, e2⟩)).elim
            · split at e2
              · omega
              · cases e2
          · cases e1
      · rw [oat_app] at e
        split at e
        · exact h2 l r e
        · split at e
          · rename_i q; rw [q, h1]; exact (hx2 r e).1
          · cases e
    · rintro ⟨h1, h3, h2⟩
      have hne : o ≠ [] := fun e => by rw [e] at h1; simp at h1
      have e := List.dropLast_concat_getLast hne
      generalize o.dropLast = p at *
      generalize o.getLast hne = x at *
      subst e
      have hp : p.length = i := by simpa using h1
      have low : ∀ l r, oat p l = some r → oat (p ++ [x]) l = some r := fun l r h => by rw [oat_app, if_pos (oat_some_lt h)]; exact h
      have top : oat (p ++ [x]) i = x := by rw [oat_app, if_neg (by omega), if_pos hp.symm]
      refine ⟨p, mem_genW.mpr ⟨hp, fun l y r a b => h3 l y r (low l r a) (low y r b), fun l r h => h2 l r (low l r h)⟩, x, mem_exW.mpr fun c ec => ?_, rfl⟩
      subst ec
      refine ⟨h2 i c top, fun hm => ?_⟩
      obtain ⟨l, hl⟩ := mem_oat_iff.mp hm
      have := h3 i l c top (low l c hl)
      have := oat_some_lt hl
      omega
theorem exW_len {w : List Nat} {o : List (Option Nat)} : (exW w o).length ≤ w.length + 1 := by
  have := List.length_filter_le (fun c => !decide (some c ∈ o)) w
  simp [exW]
  omega
theorem genW_len {W : List (List Nat)} (h : ∀ l, (row W l).length ≤ 4) : ∀ i, (genW W i).length ≤ 5 ^ i
  | 0 => by simp [genW]
  | i + 1 => by
    have h1 := genW_len h i
    have h2 : (genW W (i + 1)).length ≤ (genW W i).length * 5 := flat_len fun o _ => by
      rw [List.length_map]
      have := exW_len (w := row W i) (o := o)
      have := h i
      omega
    rw [Nat.pow_succ]
    exact Nat.le_trans h2 (Nat.mul_le_mul_right 5 h1)
def okX (o : List (Option Nat)) : Option Nat → Bool
  | none => true
  | some c => !decide (some c ∈ o)
theorem exW_eq {w : List Nat} {o : List (Option Nat)} : (none :: w.map some).filter (okX o) = exW w o := by
  unfold exW
  rw [List.filter_cons_of_pos (by rfl), List.filter_map]
  rfl
def S__law_all_homes : List Dat → (Dat → Prop) → Prop := fun ds P => ∃ (W : List (List Nat)), ds = [.lst (W.map rk)] ∧ W.length ≤ 4 ∧ (∀ l, (row W l).length ≤ 4) ∧ ∀ L : List (List (Option Nat)), (∀ y, y ∈ L ↔ OutW W y) → L.length ≤ 625 → P (.lst (L.map outD))
theorem len__law_all_homes (ds : List Dat) (Q : Dat → Prop) (h : S__law_all_homes ds Q) : ds.length = P__law_all_homes.length := by
  obtain ⟨W, rfl, _⟩ := h; rfl
theorem get_row {W : List (List Nat)} {i : Nat} {w : List Nat} (h : W[i]? = some w) : row W i = w := by simp [row, h]
section
variable {P : Program} {w : World} {K : PySem.W.Frag} {mg : Str → Option Value} {base : Heap}
theorem ok__law_all_homes (g : Fx K mg base) : FnOk P w K mg base L2.CX0 1 g.f__law_all_homes g.fd__law_all_homes P__law_all_homes (spF 0 S__law_all_homes) := by
  refine okD g.F__law_all_homes sc__law_all_homes len__law_all_homes (fun cdv A outer s H E hr => ?_)
  have nd := (sc__law_all_homes).nd
  refine ⟨_, SDs.cost (sds_cons (sd_asg (i := 1) ((pd_lst (pad_cons (pd_tup pad_nil) pad_nil))).frz nd rfl (.inl rfl)) (sds_cons (sd_for 1024 PassesOwn.never rfl (pid_list (pd_var (pv 0))) (pgd_name (i := 2) nd rfl (.inl rfl)) (sds_cons (sd_asg (i := 3) ((pd_lst pad_nil)).frz nd rfl (.inl rfl)) (sds_cons (sd_for 1024 PassesOwn.never rfl (pid_list (pd_var (pv 1))) (pgd_name (i := 4) nd rfl (.inr rfl)) (sds_cons (sd_asg (i := 3) (pd_op op_addA od_add ((pd_var (pv 3))).toSh ((pd_lc 1024 rfl nd (pid_tup (pd_op op_addA od_add ((pd_tup (pad_cons pd_non pad_nil))).toSh ((pd_var (pv 2))).toSh)) (blkOk_by (own := [("house", 5)]) (by kernel_rfl)) (fun _ _ _ _ _ => (pgd_name (i := 5) nd rfl (by first | exact .inl rfl | exact .inr rfl))) (fun _ _ _ _ _ => (ptsd_one ((pwd_or (ptd_cmp op_isA od_is ((pd_var (pv 5))).toSh (pd_non).toSh (nomark _)) (pwd_or1 (ptd_cmp (op_notinA (ru hr)) od_notin ((pd_var (pv 5))).toSh ((pd_var (pv 4))).toSh (by with_unfolding_all rfl))))).pt)) (fun _ _ _ _ _ => (pd_op op_addA od_add ((pd_var (pv 4))).toSh ((pd_tup (pad_cons (pd_var (pv 5)) pad_nil))).toSh)))).toSh) nd rfl (.inl rfl)) sds_nil)) (sds_cons (sd_asg (i := 1) (pd_var (pv 3)) nd rfl (.inl rfl)) sds_nil)))) (sds_cons (sd_ret (pd_var (pv 1))) sds_nil))) (by decide), fun ds Q h => ?_⟩
  obtain ⟨W, rfl, hW, hrow, hQ⟩ := h
  have hgen : ∀ i, i ≤ 4 → (genW W i).length ≤ 625 := fun i hi => Nat.le_trans (genW_len hrow i) (Nat.le_trans (Nat.pow_le_pow_right (by omega) hi) (by decide))
  simp
  refine for_mapL W rk (fun P h => ⟨_, rfl, h⟩) (by omega) (fun i ε => ∃ x2 x3 x4 x5 : Sl, ε = [.val (.lst (W.map rk)), .val (.lst ((genW W i).map outD)), x2, x3, x4, x5]) ⟨_, _, _, _, rfl⟩ (fun i w ε hw ⟨x2, x3, x4, x5, hε⟩ => ?_) (fun ε ⟨x2, x3, x4, x5, hε⟩ => ?_)
  · subst hε
    have hil := (List.getElem?_eq_some_iff.mp hw).1
    have hwr := get_row hw
    have l1 := hgen i (by omega)
    have l2 := hgen (i + 1) (by omega)
    have hwl := hrow i
    rw [hwr] at hwl
    simp
    refine for_mapL (genW W i) outD (fun P h => ⟨_, rfl, h⟩) (by omega) (fun j ε => ∃ x4 x5 : Sl, ε = [.val (.lst (W.map rk)), .val (.lst ((genW W i).map outD)), .val (rk w), .val (.lst ((((genW W i).take j).flatMap fun o => (exW w o).map fun x => o ++ [x]).map outD)), x4, x5]) ⟨x4, x5, by simp⟩ (fun j o ε ho ⟨x4, x5, hε⟩ => ?_) (fun ε ⟨x4, x5, hε⟩ => ?_)
    · subst hε
      have hpo := mem_genW.mp (List.mem_of_getElem? ho)
      have hol := hpo.1
      have l3 : (exW w o).length ≤ 5 := by
        have := exW_len (w := w) (o := o)
        omega
      have l4 := flat_pre (fun o => (exW w o).map fun x => o ++ [x]) (genW W i) j
      have l5 : (((genW W i).take j).flatMap fun o => (exW w o).map fun x => o ++ [x]).length ≤ 625 := by
        refine Nat.le_trans l4 ?_
        have : genW W (i + 1) = (genW W i).flatMap fun o => (exW w o).map fun x => o ++ [x] := by rw [← hwr]; rfl
        rw [← this]
        exact l2
      generalize hpre : (((genW W i).take j).flatMap fun o => (exW w o).map fun x => o ++ [x]) = pre at l5
      simp
      have hT : (none :: w.map some).map oD = [Dat.non] ++ w.map nD := by simp [oD, Function.comp_def]
      refine DL.lc_tup (none :: w.map some) oD (fun x => if okX o x = true then some (outD (o ++ [x])) else none) (fun P h => ⟨by simp, _, rfl, by simp; omega, by rw [hT] at h; exact h⟩) (by simp; omega) (fun x hx R hR => ?_) ?_
      · have add : ∀ R : Dat → Prop, R (outD (o ++ [x])) → fAdd (outD o) (.tup [oD x]) R := fun R h => ⟨by simp; omega, by simpa [outD] using h⟩
        simp
        cases x with
        | none => exact .inr ⟨rfl, add _ (by simpa [okX] using hR)⟩
        | some c =>
          refine .inl ⟨rfl, fIn_out (r := c) ?_⟩
          by_cases e : some c ∈ o
          · exact .inl ⟨by simp [e], by simpa [okX, e] using hR⟩
          · exact .inr ⟨by simp [e], add _ (by simpa [okX, e] using hR)⟩
      · rw [fm_if, exW_eq]
        refine ⟨by simp; omega, ?_⟩
        rw [take_flat _ ho, hpre]
        simp
    · subst hε
      rw [List.take_length]
      simp
      rw [← hwr]
      rfl
  · subst hε
    simp
    exact hQ _ (fun y => mem_genW.trans ⟨fun h => ⟨h.1, h.2.1, h.2.2⟩, fun h => ⟨h.len, h.one, h.want⟩⟩) (hgen _ hW)
end
end K92
set_option maxRecDepth 100000
set_option maxHeartbeats 1000000
namespace K92
open PySem PySem.Spec PyProof.Rows L2 RZ DL LamX
open C8 (call_isC pe_gc InsC)
open M90
variable [TabC]
def wrsB (W : List (List Nat)) (y x : List (Option Nat)) (k : Nat) : Bool := btrB (row W k) (oat x k) (oat y k) || ((oat y k).isNone && (oat x k).isSome)
def impB (W : List (List Nat)) (y x : List (Option Nat)) : Bool := ((List.range W.length).filter (wrsB W y x)).isEmpty && !((List.range W.length).filter fun k => btrB (row W k) (oat y k) (oat x k)).isEmpty
def S__law_improves : List Dat → (Dat → Prop) → Prop := fun ds P => ∃ (W : List (List Nat)) (y x : List (Option Nat)), ds = [.lst (W.map rk), outD y, outD x] ∧ W.length ≤ 60 ∧ OutW W y ∧ OutW W x ∧ P (.bl (impB W y x))
theorem len__law_improves (ds : List Dat) (Q : Dat → Prop) (h : S__law_improves ds Q) : ds.length = P__law_improves.length := by
  obtain ⟨W, y, x, rfl, _⟩ := h; rfl
theorem fIx_W {W : List (List Nat)} {k : Nat} {P : Dat → Prop} (h : k < W.length) (hP : P (rk (row W k))) : fIx (.lst (W.map rk)) (nD k) P := Eq.mpr (fIx_rks h) hP
section
variable {P : Program} {w : World} {K : PySem.W.Frag} {mg : Str → Option Value} {base : Heap}
theorem ok__law_improves (g : Fx K mg base) : FnOk P w K mg base L2.CX0 2 g.f__law_improves g.fd__law_improves P__law_improves (spF 0 S__law_improves) := by
  refine okD g.F__law_improves sc__law_improves len__law_improves (fun cdv A outer s H E hr => ?_)
  have nd := (sc__law_improves).nd
  refine ⟨_, SDs.cost (sds_cons (sd_if (ptd_cmp (op_neD (ru0 hr)) od_ne ((pd_lc 64 rfl nd (pid_range1 (by rfl) g.b_range (pad_cons (pd_callB call_lenA cd_len (by rfl) g.b_len boot_len (phd_cons ((pd_var (pv 0))).toSh phd_nil)) pad_nil)) (blkOk_by (own := [("k", 3)]) (by kernel_rfl)) (fun _ _ _ _ _ => (pgd_name (i := 3) nd rfl (by first | exact .inl rfl | exact .inr rfl))) (fun _ _ _ _ _ => (ptsd_one ((pwd_or (ptd_val (pd_call (ok__law_better g) (hr.mono (by decide)) (by rfl) g.g__law_better g.F__law_better.kp (b__law_better g) (pad_cons (pd_ix (ix_all (ru1 hr)) od_ix ((pd_var (pv 0))).toSh ((pd_var (pv 3))).toSh (fun _ _ => rfl)) (pad_cons (pd_ix (ix_all (ru1 hr)) od_ix ((pd_var (pv 2))).toSh ((pd_var (pv 3))).toSh (fun _ _ => rfl)) (pad_cons (pd_ix (ix_all (ru1 hr)) od_ix ((pd_var (pv 1))).toSh ((pd_var (pv 3))).toSh (fun _ _ => rfl)) pad_nil))))) (pwd_or1 ((pwd_and (ptd_cmp op_isA od_is ((pd_ix (ix_all (ru1 hr)) od_ix ((pd_var (pv 1))).toSh ((pd_var (pv 3))).toSh (fun _ _ => rfl))).toSh (pd_non).toSh (nomark _)) (pwd_and1 (ptd_cmp op_isnA od_isn ((pd_ix (ix_all (ru1 hr)) od_ix ((pd_var (pv 2))).toSh ((pd_var (pv 3))).toSh (fun _ _ => rfl))).toSh (pd_non).toSh (nomark _))))).pt))).pt)) (fun _ _ _ _ _ => (pd_var (pv 3))))).toSh ((pd_lst pad_nil)).toSh (nomark _)) (sds_cons (sd_ret pd_bl) sds_nil) sds_nil) (sds_cons (sd_ret (pd_cmp (op_neD (ru0 hr)) od_ne ((pd_lc 64 rfl nd (pid_range1 (by rfl) g.b_range (pad_cons (pd_callB call_lenA cd_len (by rfl) g.b_len boot_len (phd_cons ((pd_var (pv 0))).toSh phd_nil)) pad_nil)) (blkOk_by (own := [("k", 3)]) (by kernel_rfl)) (fun _ _ _ _ _ => (pgd_name (i := 3) nd rfl (by first | exact .inl rfl | exact .inr rfl))) (fun _ _ _ _ _ => (ptsd_one (ptd_val (pd_call (ok__law_better g) (hr.mono (by decide)) (by rfl) g.g__law_better g.F__law_better.kp (b__law_better g) (pad_cons (pd_ix (ix_all (ru1 hr)) od_ix ((pd_var (pv 0))).toSh ((pd_var (pv 3))).toSh (fun _ _ => rfl)) (pad_cons (pd_ix (ix_all (ru1 hr)) od_ix ((pd_var (pv 1))).toSh ((pd_var (pv 3))).toSh (fun _ _ => rfl)) (pad_cons (pd_ix (ix_all (ru1 hr)) od_ix ((pd_var (pv 2))).toSh ((pd_var (pv 3))).toSh (fun _ _ => rfl)) pad_nil))))))) (fun _ _ _ _ _ => (pd_var (pv 3))))).toSh ((pd_lst pad_nil)).toSh (nomark _))) sds_nil)) (by decide), fun ds Q h => ?_⟩
  obtain ⟨W, y, x, rfl, hW, hy, hx, hQ⟩ := h
  have hyl := hy.len
  have hxl := hx.len
  simp
  refine lc_rN (n := W.length) (fun k => if wrsB W y x k = true then some (nD k) else none) (fun P h => by simp; exact h) (by omega) (by omega) (fun k hk R hR => ?_) ?_
  · simp
    refine fIx_W hk (Eq.mpr (fIx_out (by omega)) (Eq.mpr (fIx_out (by omega)) ⟨row W k, oat x k, oat y k, rfl, hy.want k, ?_⟩))
    by_cases e : btrB (row W k) (oat x k) (oat y k) = true
    · exact .inr ⟨by rw [e], by simpa [wrsB, e] using hR⟩
    · refine .inl ⟨by simp [e], Eq.mpr (fIx_out (by omega)) ?_⟩
      cases q : oat y k with
      | some b => rw [q] at e; exact .inl ⟨rfl, by simpa [wrsB, e, q] using hR⟩
      | none =>
        rw [q] at e
        refine .inr ⟨rfl, Eq.mpr (fIx_out (by omega)) ?_⟩
        cases q2 : oat x k with
        | none => rw [q2] at e; exact .inl ⟨rfl, by simpa [wrsB, e, q, q2] using hR⟩
        | some a => rw [q2] at e; exact .inr ⟨rfl, by simpa [wrsB, e, q, q2] using hR⟩
  · rw [fm_if]
    simp
    rw [eqD_lnil]
    by_cases h1 : (List.range W.length).filter (wrsB W y x) = []
    · refine .inl ⟨by simp [h1], ?_⟩
      refine lc_rN (n := W.length) (fun k => if btrB (row W k) (oat y k) (oat x k) = true then some (nD k) else none) (fun P h => by simp; exact h) (by omega) (by omega) (fun k hk R hR => ?_) ?_
      · simp
        refine fIx_W hk (Eq.mpr (fIx_out (by omega)) (Eq.mpr (fIx_out (by omega)) ⟨row W k, oat y k, oat x k, rfl, hx.want k, ?_⟩))
        by_cases e : btrB (row W k) (oat y k) (oat x k) = true
        · exact .inr ⟨by rw [e], by simpa [e] using hR⟩
        · exact .inl ⟨by simp [e], by simpa [e] using hR⟩
      · rw [fm_if]
        refine ⟨by simp, ?_⟩
        rw [eqD_lnil]
        have e : (!decide (((List.range W.length).filter fun k => btrB (row W k) (oat y k) (oat x k)).map nD = [])) = impB W y x := by
          unfold impB
          rw [h1]
          rw [Bool.eq_iff_iff]
          simp
        rw [e]
        exact hQ
    · refine .inr ⟨by simpa using h1, ?_⟩
      have e : impB W y x = false := by
        unfold impB
        have : ((List.range W.length).filter (wrsB W y x)).isEmpty = false := by
          cases q : (List.range W.length).filter (wrsB W y x) with
          | nil => exact (h1 q).elim
          | cons a t => rfl
        rw [this]
        rfl
      rw [e] at hQ
      exact hQ
end
theorem inB_btr {V : HM} {x : List (Option Nat)} {p : Nat} {a : Option Nat} (ok : V.Ok) (hp : p < V.rs.length) : inB a (btr V x p) = btrB (wnt V p) a (oat x p) := by
  cases a with
  | none => rfl
  | some c =>
    show decide (c ∈ btr V x p) = (decide (c ∈ wnt V p) && _)
    rw [Bool.eq_iff_iff, decide_eq_true_eq, mem_btr ok hp, Bool.and_eq_true, decide_eq_true_eq]
    cases oat x p with
    | none => simp
    | some b => simp
def S__law_is_chain : List Dat → (Dat → Prop) → Prop := fun ds P => ∃ (V : HM) (x : List (Option Nat)) (pe : List Nat) (la : Option Nat), ds = [.lst (((List.range V.rs.length).map (wnt V)).map rk), outD x, .tup [rk pe, oD la]] ∧ V.Ok ∧ OutH V x ∧ pe ≠ [] ∧ pe.Nodup ∧ (∀ p ∈ pe, p < V.rs.length) ∧ P (.bl (decP (Chn V x pe la)))
theorem len__law_is_chain (ds : List Dat) (Q : Dat → Prop) (h : S__law_is_chain ds Q) : ds.length = P__law_is_chain.length := by
  obtain ⟨V, x, pe, la, rfl, _⟩ := h; rfl
section
variable {P : Program} {w : World} {K : PySem.W.Frag} {mg : Str → Option Value} {base : Heap}
theorem ok__law_is_chain (g : Fx K mg base) : FnOk P w K mg base L2.CX0 2 g.f__law_is_chain g.fd__law_is_chain P__law_is_chain (spF 0 S__law_is_chain) := by
  refine okD g.F__law_is_chain sc__law_is_chain len__law_is_chain (fun cdv A outer s H E hr => ?_)
  have nd := (sc__law_is_chain).nd
  refine ⟨_, SDs.cost (sds_cons (sd_if ((pwd_or (ptd_not (ptd_val (pd_callB call_isi cd_isi (by rfl) g.b_isinstance boot_isinstance (phd_cons ((pd_var (pv 2))).toSh (phd_cons ((pd_ty (pe_bltn (by rfl) g.b_tuple boot_tuple rfl))).toSh phd_nil))))) (pwd_or (ptd_cmp (op_neD (ru0 hr)) od_ne ((pd_callB call_lenA cd_len (by rfl) g.b_len boot_len (phd_cons ((pd_var (pv 2))).toSh phd_nil))).toSh (pd_int).toSh (nomark _)) (pwd_or (ptd_not (ptd_val (pd_callB call_isi cd_isi (by rfl) g.b_isinstance boot_isinstance (phd_cons ((pd_ix (ix_all (ru1 hr)) od_ix ((pd_var (pv 2))).toSh (pd_int).toSh (fun _ _ => rfl))).toSh (phd_cons ((pd_ty (pe_bltn (by rfl) g.b_tuple boot_tuple rfl))).toSh phd_nil))))) (pwd_or (ptd_cmp (op_eqD (ru0 hr)) od_eq ((pd_ix (ix_all (ru1 hr)) od_ix ((pd_var (pv 2))).toSh (pd_int).toSh (fun _ _ => rfl))).toSh ((pd_tup pad_nil)).toSh (nomark _)) (pwd_or1 (ptd_cmp (op_neD (ru0 hr)) od_ne ((pd_lenSet (by rfl) g.b_len (by rfl) g.b_set (pd_ix (ix_all (ru1 hr)) od_ix ((pd_var (pv 2))).toSh (pd_int).toSh (fun _ _ => rfl)) rfl)).toSh ((pd_callB call_lenA cd_len (by rfl) g.b_len boot_len (phd_cons ((pd_ix (ix_all (ru1 hr)) od_ix ((pd_var (pv 2))).toSh (pd_int).toSh (fun _ _ => rfl))).toSh phd_nil))).toSh (nomark _)))))))).pt (sds_cons (sd_ret pd_bl) sds_nil) sds_nil) (sds_cons (sd_if ((pwd_or (ptd_cmp (op_inA (ru hr)) od_in ((pd_neg pd_int)).toSh ((pd_call (ok__law_row g) (hr.mono (by decide)) (by rfl) g.g__law_row g.F__law_row.kp (b__law_row g) (pad_cons (pd_ix (ix_all (ru1 hr)) od_ix ((pd_var (pv 2))).toSh (pd_int).toSh (fun _ _ => rfl)) (pad_cons (pd_callB call_lenA cd_len (by rfl) g.b_len boot_len (phd_cons ((pd_ix (ix_all (ru1 hr)) od_ix ((pd_var (pv 2))).toSh (pd_int).toSh (fun _ _ => rfl))).toSh phd_nil)) pad_nil)))).toSh (by with_unfolding_all rfl)) (pwd_or (ptd_cmp (op_inA (ru hr)) od_in (pd_non).toSh ((pd_ix (ix_all (ru1 hr)) od_ix ((pd_var (pv 2))).toSh (pd_int).toSh (fun _ _ => rfl))).toSh (by with_unfolding_all rfl)) (pwd_or (ptd_cmp (op_inA (ru hr)) od_in ((pd_neg pd_int)).toSh ((pd_call (ok__law_row g) (hr.mono (by decide)) (by rfl) g.g__law_row g.F__law_row.kp (b__law_row g) (pad_cons (pd_slice ((pd_var (pv 2))).toSh (pod_some pd_int) pod_none) (pad_cons pd_int pad_nil)))).toSh (by with_unfolding_all rfl)) (pwd_or1 ((pwd_and (ptd_cmp op_isnA od_isn ((pd_ix (ix_all (ru1 hr)) od_ix ((pd_var (pv 2))).toSh (pd_int).toSh (fun _ _ => rfl))).toSh (pd_non).toSh (nomark _)) (pwd_and1 (ptd_cmp (op_inA (ru hr)) od_in ((pd_ix (ix_all (ru1 hr)) od_ix ((pd_var (pv 2))).toSh (pd_int).toSh (fun _ _ => rfl))).toSh ((pd_var (pv 1))).toSh (by with_unfolding_all rfl))))).pt))))).pt (sds_cons (sd_ret pd_bl) sds_nil) sds_nil) (sds_cons (sd_asg (i := 3) (pd_op op_addA od_add ((pd_lc 64 rfl nd (pid_tup (pd_slice ((pd_ix (ix_all (ru1 hr)) od_ix ((pd_var (pv 2))).toSh (pd_int).toSh (fun _ _ => rfl))).toSh (pod_some pd_int) pod_none)) (blkOk_by (own := [("person", 4)]) (by kernel_rfl)) (fun _ _ _ _ _ => (pgd_name (i := 4) nd rfl (by first | exact .inl rfl | exact .inr rfl))) (fun _ _ _ _ _ => ptsd_nil) (fun _ _ _ _ _ => (pd_ix (ix_all (ru1 hr)) od_ix ((pd_var (pv 1))).toSh ((pd_var (pv 4))).toSh (fun _ _ => rfl))))).toSh ((pd_lst (pad_cons (pd_if (ptd_cmp op_isA od_is ((pd_ix (ix_all (ru1 hr)) od_ix ((pd_var (pv 2))).toSh (pd_int).toSh (fun _ _ => rfl))).toSh (pd_non).toSh (nomark _)) (pd_ix (ix_all (ru1 hr)) od_ix ((pd_var (pv 1))).toSh ((pd_ix (ix_all (ru1 hr)) od_ix ((pd_ix (ix_all (ru1 hr)) od_ix ((pd_var (pv 2))).toSh (pd_int).toSh (fun _ _ => rfl))).toSh (pd_int).toSh (fun _ _ => rfl))).toSh (fun _ _ => rfl)) (pd_ix (ix_all (ru1 hr)) od_ix ((pd_var (pv 2))).toSh (pd_int).toSh (fun _ _ => rfl))) pad_nil))).toSh) nd rfl (.inr rfl)) (sds_cons (sd_ret (pd_cmp (op_eqD (ru0 hr)) od_eq ((pd_lc 64 rfl nd (pid_range1 (by rfl) g.b_range (pad_cons (pd_callB call_lenA cd_len (by rfl) g.b_len boot_len (phd_cons ((pd_var (pv 3))).toSh phd_nil)) pad_nil)) (blkOk_by (own := [("k", 5)]) (by kernel_rfl)) (fun _ _ _ _ _ => (pgd_name (i := 5) nd rfl (by first | exact .inl rfl | exact .inr rfl))) (fun _ _ _ _ _ => (ptsd_one ((pwd_or (ptd_cmp op_isA od_is ((pd_ix (ix_all (ru1 hr)) od_ix ((pd_var (pv 3))).toSh ((pd_var (pv 5))).toSh (fun _ _ => rfl))).toSh (pd_non).toSh (nomark _)) (pwd_or1 (ptd_not (ptd_val (pd_call (ok__law_better g) (hr.mono (by decide)) (by rfl) g.g__law_better g.F__law_better.kp (b__law_better g) (pad_cons (pd_ix (ix_all (ru1 hr)) od_ix ((pd_var (pv 0))).toSh ((pd_ix (ix_all (ru1 hr)) od_ix ((pd_ix (ix_all (ru1 hr)) od_ix ((pd_var (pv 2))).toSh (pd_int).toSh (fun _ _ => rfl))).toSh ((pd_var (pv 5))).toSh (fun _ _ => rfl))).toSh (fun _ _ => rfl)) (pad_cons (pd_ix (ix_all (ru1 hr)) od_ix ((pd_var (pv 3))).toSh ((pd_var (pv 5))).toSh (fun _ _ => rfl)) (pad_cons (pd_ix (ix_all (ru1 hr)) od_ix ((pd_var (pv 1))).toSh ((pd_ix (ix_all (ru1 hr)) od_ix ((pd_ix (ix_all (ru1 hr)) od_ix ((pd_var (pv 2))).toSh (pd_int).toSh (fun _ _ => rfl))).toSh ((pd_var (pv 5))).toSh (fun _ _ => rfl))).toSh (fun _ _ => rfl)) pad_nil))))))))).pt)) (fun _ _ _ _ _ => (pd_var (pv 5))))).toSh ((pd_lst pad_nil)).toSh (nomark _))) sds_nil)))) (by decide), fun ds Q h => ?_⟩
  obtain ⟨V, x, pe, la, rfl, ok, hx, hne, hnd, hlt, hQ⟩ := h
  have hn := ok.wi.2.1
  have hxl := hx.len
  have hpl := nd_len hnd hlt
  have hWl : ((List.range V.rs.length).map (wnt V)).length = V.rs.length := by simp
  have hWr : ∀ p, p < V.rs.length → row ((List.range V.rs.length).map (wnt V)) p = wnt V p := fun p hp => by simp [row, hp]
  generalize (List.range V.rs.length).map (wnt V) = W at hWl hWr
  simp
  have hat : atI [rk pe, oD la] 0 = some (rk pe) := show atI _ ((0 : Nat) : Int) = _ from atI_nat rfl
  have hat1 : atI [rk pe, oD la] 1 = some (oD la) := show atI _ ((1 : Nat) : Int) = _ from atI_nat rfl
  have heq : eqD (rk pe) (Dat.tup []) = false := by
    show eqD (.tup (pe.map nD)) (.tup []) = false
    rw [eqD_tnil]
    simp [hne]
  have hp0 : 0 < pe.length := List.length_pos_iff.mpr hne
  have hrk : rk pe = outD (pe.map some) := by simp [rk, outD, oD, Function.comp_def]
  have hml : ∀ (o : List (Option Nat)), ((o.map oD).any fun z => eqD z (Dat.int (-1))) = false := fun o => by
    rw [List.any_eq_false]
    intro z hz
    obtain ⟨a, _, rfl⟩ := List.mem_map.mp hz
    cases a with
    | none => simp [oD, eqD]
    | some n => simp [oD, nD, eqD]
  have hmi : ∀ (o : List (Option Nat)) (R : Dat → Prop), R (.bl false) → fIn false (Dat.int (-1)) (outD o) R := fun o R h => ⟨rfl, by simp, by rw [hml o]; exact h⟩
  refine ⟨rk pe, hat, "tuple", rfl, .inr ⟨rfl, rk pe, hat, pl_rk, .inl ⟨heq, rk pe, hat, _, rfl, _, intsD_nD, List.pairwise_map.mpr (hnd.imp fun {a b} (h : a ≠ b) => by omega), by simp; omega, rk pe, hat, ?_⟩⟩⟩
  have hnin : ∀ R : Dat → Prop, R (.bl false) → fIn false Dat.non (rk pe) R := fun R h => by
    refine ⟨rfl, by simp, ?_⟩
    have : ((pe.map nD).any fun z => eqD z Dat.non) = false := by
      rw [List.any_eq_false]
      intro z hz
      obtain ⟨a, _, rfl⟩ := List.mem_map.mp hz
      simp [nD, eqD]
    rw [this]
    exact h
  refine Eq.mpr fLen_rk ⟨by simp, .inl ⟨by simp [eqD], rk pe, hat, rk pe, hat, Eq.mpr fLen_rk ⟨pe.map some, by rw [← hrk]; simp [nD], by simp; omega, hmi _ _ (.inl ⟨rfl, rk pe, hat, hnin _ (.inl ⟨rfl, ?_⟩)⟩)⟩⟩⟩
  refine ⟨[la], by rw [cut1]; rfl, by simp, hmi _ _ (.inl ⟨rfl, oD la, hat1, ?_⟩)⟩
  have comp : ∀ R : Dat → Prop, R (.lst ((pe.tail.map (oat x)).map oD)) → dLc 64 (iT (dSl (dOp fIx (dVar 2) (dC (Dat.int 0))) (oSome (dC (Dat.int 1))) oNone)) (gN 4) dYes (dOp fIx (dVar 1) (dVar 4)) [4] [Sl.val (Dat.lst (W.map rk)), Sl.val (outD x), Sl.val (Dat.tup [rk pe, oD la]), Sl.off, Sl.off, Sl.off] R := fun R h => by
    refine DL.lc_tup pe.tail nD (fun p => some (oD (oat x p))) (fun P h => ?_) (by simp; omega) (fun p hp R hR => ?_) ?_
    · refine ⟨_, rfl, rk pe, hat, _, rfl, ?_⟩
      have sl : ∀ (lo hi : Option Int) (R : Dat → Prop), fSl (rk pe) lo hi R = R (.tup (cut (pe.map nD) lo hi)) := fun _ _ _ => rfl
      show fSl (rk pe) (some 1) none P
      rw [sl, cut1, ← List.map_tail]
      exact h
    · have := hlt p (List.mem_of_mem_tail hp)
      simp
      exact Eq.mpr (fIx_out (by omega)) hR
    · rw [fm_map]
      rw [List.map_map] at h
      exact h
  have fin : (∀ c, la = some c → ∀ p, oat x p ≠ some c) → dLc 64 (iR1 (aCons (dCr fLen (aCons (dVar 3) aNil)) aNil)) (gN 5)
      (DL.tOr (tV (dOp (fIs false) (dOp fIx (dVar 3) (dVar 5)) (dC Dat.non))) (tNt (tV (dCall S__law_better (aCons (dOp fIx (dVar 0) (dOp fIx (dOp fIx (dVar 2) (dC (Dat.int 0))) (dVar 5))) (aCons (dOp fIx (dVar 3) (dVar 5)) (aCons (dOp fIx (dVar 1) (dOp fIx (dOp fIx (dVar 2) (dC (Dat.int 0))) (dVar 5))) aNil)))))))
      (dVar 5) [5] [Sl.val (Dat.lst (W.map rk)), Sl.val (outD x), Sl.val (Dat.tup [rk pe, oD la]), Sl.val (.lst ((gtL x pe la).map oD)), Sl.off, Sl.off] fun d => pl 20 d = true ∧ Q (Dat.bl (eqD d (Dat.lst []))) := fun hno => by
    have hgl : (gtL x pe la).length = pe.length := gtL_len hne
    refine lc_rN (n := pe.length) (fun k => if (!inB (gtO x pe la k) (btr V x (at0 pe k))) = true then some (nD k) else none) (fun P h => by simp [hgl]; exact h) (by omega) (by omega) (fun k hk R hR => ?_) ?_
    · have hpk := hlt _ (at0_mem hk)
      have hgk : oat (gtL x pe la) k = gtO x pe la k := by
        have := gtL_get (x := x) (la := la) hk
        unfold oat
        rw [List.getD_eq_getElem?_getD, this]
        rfl
      simp
      refine Eq.mpr (fIx_lo (by omega)) ?_
      rw [hgk]
      rw [inB_btr ok hpk] at hR
      have better : ∀ R : Dat → Prop, R (.bl (btrB (wnt V (at0 pe k)) (gtO x pe la k) (oat x (at0 pe k)))) → S__law_better [rk (wnt V (at0 pe k)), oD (gtO x pe la k), oD (oat x (at0 pe k))] R := fun R h => ⟨_, _, _, rfl, hx.want _, h⟩
      cases q : gtO x pe la k with
      | none =>
        rw [q] at hR
        exact .inr ⟨rfl, by simpa [btrB, inB] using hR⟩
      | some c =>
        rw [q] at hR better hgk
        have hWk : fIx (Dat.lst (W.map rk)) (nD (at0 pe k)) = fun R => R (rk (wnt V (at0 pe k))) := by
          funext R
          have h2 := fIx_rks (ls := W) (a := at0 pe k) (P := R) (by omega)
          rw [hWr _ hpk] at h2
          exact h2
        refine .inl ⟨rfl, rk pe, hat, Eq.mpr (fIx_rk hk) ?_⟩
        rw [hWk]
        refine Eq.mpr (fIx_lo (by omega)) ?_
        rw [hgk]
        refine ⟨rk pe, hat, Eq.mpr (fIx_rk hk) (Eq.mpr (fIx_out (by omega)) (better _ ?_))⟩
        by_cases e : btrB (wnt V (at0 pe k)) (some c) (oat x (at0 pe k)) = true
        · exact .inr ⟨by rw [e], by simpa [e] using hR⟩
        · exact .inl ⟨by simp [e], by simpa [e] using hR⟩
    · rw [fm_if]
      refine ⟨by simp, ?_⟩
      rw [eqD_lnil]
      rw [chn_all hne hnd hlt hno] at hQ
      have e : decide (((List.range pe.length).filter fun k => !inB (gtO x pe la k) (btr V x (at0 pe k))).map nD = []) = ((List.range pe.length).map fun i => inB (gtO x pe la i) (btr V x (at0 pe i))).all id := by
        rw [Bool.eq_iff_iff]
        simp
      rw [e]
      exact hQ
  cases la with
  | none =>
    refine .inl ⟨rfl, comp _ ⟨oD none, hat1, .inr ⟨rfl, rk pe, hat, ?_⟩⟩⟩
    refine Eq.mpr (fIx_rk (r := pe) (a := 0) hp0) (Eq.mpr (fIx_out (by have := hlt _ (at0_mem hp0); omega)) ?_)
    have e0 : at0 pe 0 = pe.headD 0 := by cases pe <;> rfl
    have h9 := fin (fun c e => by cases e)
    refine ⟨by simp; omega, ?_⟩
    have e : (pe.tail.map (oat x)).map oD ++ [oD (oat x (at0 pe 0))] = (gtL x pe none).map oD := by rw [e0]; simp [gtL]
    rw [e]
    exact h9
  | some c =>
    refine .inr ⟨rfl, oD (some c), hat1, fIn_out (r := c) ?_⟩
    by_cases hm : some c ∈ x
    · refine .inr ⟨by simp [hm], ?_⟩
      have : decP (Chn V x pe (some c)) = false := by
        cases q : decP (Chn V x pe (some c)) with
        | false => rfl
        | true =>
          obtain ⟨p, hp⟩ := mem_oat_iff.mp hm
          exact ((decP_iff.mp q).out c rfl p hp).elim
      rw [this] at hQ
      exact hQ
    · have h9 := fin (fun d e p hp => by cases e; exact hm (mem_oat_iff.mpr ⟨p, hp⟩))
      refine .inl ⟨by simp [hm], comp _ ⟨oD (some c), hat1, .inl ⟨rfl, oD (some c), hat1, by simp; omega, ?_⟩⟩⟩
      have e : (pe.tail.map (oat x)).map oD ++ [oD (some c)] = (gtL x pe (some c)).map oD := by simp [gtL]
      rw [e]
      exact h9
end
end K92
set_option maxRecDepth 100000
set_option maxHeartbeats 1000000
namespace K92
open PySem PySem.Spec PyProof.Rows L2 RZ DL LamX
open C8 (call_isC pe_gc InsC)
open M90
variable [TabC]
theorem lc_anyI {α : Type} {M : Nat} {U : TAD} {G : GD} {Tt : (Ev → (Bool → Prop) → Prop)} {Te : TD} {vs : List Nat} {ε : Ev} {P : Dat → Prop} {n : Nat} (F : α → Dat) (p : Nat → α → Prop) (hT : ∀ P : List Dat → Prop, P [.int (n : Int)] → U ε P) (hl : n ≤ M) (hM : n ≤ 100000)
    (h : ∀ a, a < n → ∀ (R : Dat → Prop) (R0 : Prop), (∀ x, p a x → R (F x)) → G (nD a) (wipeD ε vs) fun ε2 => Tt ε2 fun b => if b = true then Te ε2 fun y => R y else R0) (hP : ∀ l : List α, l.length = n → (∀ i x, l[i]? = some x → p i x) → P (.lst (l.map F))) : dLc M (iR1 U) G Tt Te vs ε P :=
  hT _ ⟨n, rfl, by omega, by omega, by simp [rngD]; exact hl, fun i acc => ∃ l : List α, l.length = i ∧ (∀ j x, l[j]? = some x → p j x) ∧ acc = l.map F, ⟨[], rfl, by simp, rfl⟩, fun i d acc hd ⟨l, h1, h2, h3⟩ => by
    have hi : i < n := by
      have := (List.getElem?_eq_some_iff.mp hd).1
      simpa [rngD] using this
    have : d = .int (i : Int) := by
      simp [rngD, hi] at hd
      rw [← hd]
    subst this
    refine h i hi (fun y => ∃ l : List α, l.length = i + 1 ∧ (∀ j x, l[j]? = some x → p j x) ∧ acc ++ [y] = l.map F) _ fun x hx => ⟨l ++ [x], by simp [h1], fun j z hz => ?_, by simp [h3]⟩
    rcases Nat.lt_or_ge j l.length with q | q
    · rw [List.getElem?_append_left q] at hz
      exact h2 j z hz
    · have hj := (List.getElem?_eq_some_iff.mp hz).1
      have : j = l.length := by simp at hj; omega
      subst this
      simp at hz
      subst hz
      rw [h1]
      exact hx, fun acc ⟨l, h1, h2, h3⟩ => by
    have h1' : l.length = n := by simpa [rngD] using h1
    rw [h3]
    exact hP l h1' h2⟩
theorem or_same {c : Bool} {F : Dat → Prop} {G1 G2 : (Dat → Prop) → Prop} (C : Dat → Prop) (h1 : c = false → ∀ P : Dat → Prop, (∀ d, C d → P d) → G1 P) (h2 : c = true → ∀ P : Dat → Prop, (∀ d, C d → P d) → G2 P) (h : ∀ d, C d → F d) : (Dat.bl c = Dat.bl false ∧ G1 F) ∨ (Dat.bl c = Dat.bl true ∧ G2 F) := by
  cases c with
  | false => exact .inl ⟨rfl, h1 rfl F h⟩
  | true => exact .inr ⟨rfl, h2 rfl F h⟩
theorem row_none {W : List (List Nat)} {l : Nat} (h : W.length ≤ l) : row W l = [] := by
  unfold row
  rw [List.getD_eq_getElem?_getD, List.getElem?_eq_none_iff.mpr h]
  rfl
@[simp] theorem gK_3210 (a b c d : Dat) : gK [3, 2, 1, 0] [] [a, b, c, d] = [d, c, b, a] := rfl
theorem imp_iff {V : HM} {x y : List (Option Nat)} (ok : V.Ok) (hx : OutH V x) (hy : OutH V y) : impB ((List.range V.rs.length).map (wnt V)) y x = true ↔ Imp V y x := by
  have hWl : ((List.range V.rs.length).map (wnt V)).length = V.rs.length := by simp
  have hWr : ∀ p, p < V.rs.length → row ((List.range V.rs.length).map (wnt V)) p = wnt V p := fun p hp => by simp [row, hp]
  generalize (List.range V.rs.length).map (wnt V) = W at hWl hWr
  have bt : ∀ (z : List (Option Nat)) (p : Nat) (a : Option Nat), p < V.rs.length → btrB (row W p) a (oat z p) = inB a (btr V z p) := fun z p a hp => by rw [hWr p hp, inB_btr ok hp]
  have h1 : impB W y x = true ↔ (∀ p, p < V.rs.length → wrsB W y x p = false) ∧ ∃ p, p < V.rs.length ∧ btrB (row W p) (oat y p) (oat x p) = true := by
    unfold impB
    rw [Bool.and_eq_true]
    refine and_congr ?_ ?_
    · rw [List.isEmpty_iff, List.filter_eq_nil_iff, hWl]
      simp
    · rw [hWl]
      simp
  rw [h1]
  constructor
  · rintro ⟨a, p, hp, b⟩
    refine ⟨fun q hq hne => ?_, p, hp, fun e => ?_⟩
    · have := a q hq
      unfold wrsB at this
      rw [Bool.or_eq_false_iff, bt y q _ hq] at this
      obtain ⟨e1, e2⟩ := this
      cases ey : oat y q with
      | none =>
        rw [ey] at hne e2
        cases ex : oat x q with
        | none => exact (hne ex.symm).elim
        | some c => rw [ex] at e2; simp at e2
      | some c =>
        refine ⟨c, rfl, (mem_btr ok hq).mpr ⟨hy.want q c ey, fun d hd => ?_⟩⟩
        rw [hd] at e1
        have hdn : ¬ d ∈ btr V y q := by simpa [inB] using e1
        rw [mem_btr ok hq] at hdn
        have hdw := hx.want q d hd
        have hne2 : c ≠ d := fun z => by rw [ey, hd, z] at hne; exact hne rfl
        rcases Nat.lt_trichotomy (ixo (wnt V q) c) (ixo (wnt V q) d) with z | z | z
        · exact z
        · exact (hne2 (ixo_inj (hy.want q c ey) z)).elim
        · exact (hdn ⟨hdw, fun d' hd' => by rw [ey] at hd'; cases hd'; exact z⟩).elim
    · rw [bt x p _ hp, e] at b
      cases ex : oat x p with
      | none => rw [ex] at b; simp [inB] at b
      | some c =>
        rw [ex] at b
        have : c ∈ btr V x p := by simpa [inB] using b
        exact btr_ne ok hp this ex
  · rintro ⟨a, p, hp, b⟩
    refine ⟨fun q hq => ?_, p, hp, ?_⟩
    · unfold wrsB
      rw [Bool.or_eq_false_iff, bt y q _ hq]
      by_cases hne : oat y q = oat x q
      · rw [hne]
        cases ex : oat x q with
        | none => simp [inB]
        | some c =>
          have : ¬ c ∈ btr V y q := fun z => btr_ne ok hq z (hne.trans ex)
          simp [inB, this]
      · obtain ⟨c, ey, hc⟩ := a q hq hne
        rw [ey]
        cases ex : oat x q with
        | none => simp [inB]
        | some d =>
          have : ¬ d ∈ btr V y q := fun z => by
            have z1 := ((mem_btr ok hq).mp z).2 c ey
            have z2 := ((mem_btr ok hq).mp hc).2 d ex
            omega
          simp [inB, this]
    · obtain ⟨c, ey, hc⟩ := a p hp b
      rw [bt x p _ hp, ey]
      simpa [inB] using hc
def eD (l : List (Nat × Option Nat)) : List (Key × Dat) := l.map fun q => (.inl (q.1 : Int), oD q.2)
def kyE (l : List (Nat × Option Nat)) : List Nat := l.map (·.1)
theorem look_eD {l : List (Nat × Option Nat)} {k : Nat} : (k ∈ kyE l → ∃ w, (k, w) ∈ l ∧ lookD (eD l) (.inl (k : Int)) = some (oD w)) ∧ (k ∉ kyE l → lookD (eD l) (.inl (k : Int)) = none) := by
  induction l with
  | nil => exact ⟨fun h => by simp [kyE] at h, fun _ => rfl⟩
  | cons a l ih =>
    by_cases e : a.1 = k
    · refine ⟨fun _ => ⟨a.2, by rw [← e]; simp, by simp [lookD, eD, e]⟩, fun h => (h (by simp [kyE, e])).elim⟩
    · have e2 : ¬ ((a.1 : Int) = (k : Int)) := by omega
      have e3 : lookD (eD (a :: l)) (.inl (k : Int)) = lookD (eD l) (.inl (k : Int)) := by simp [lookD, eD, e2]
      rw [e3]
      refine ⟨fun h => ?_, fun h => ih.2 fun z => h (by simp [kyE] at z ⊢; exact .inr z)⟩
      have hk : k ∈ kyE l := by
        simp [kyE] at h ⊢
        rcases h with h | h
        · exact (e h.symm).elim
        · exact h
      obtain ⟨w, h1, h2⟩ := ih.1 hk
      exact ⟨w, List.mem_cons_of_mem _ h1, h2⟩
theorem put_eD {l : List (Nat × Option Nat)} {k : Nat} {w : Option Nat} (h : k ∉ kyE l) : putD (eD l) (.inl (k : Int)) (oD w) = eD (l ++ [(k, w)]) := by
  unfold putD
  have : ((eD l).any fun kv => decide (kv.1 = (.inl (k : Int) : Key))) = false := by
    rw [List.any_eq_false]
    intro kv hkv
    obtain ⟨q, hq, rfl⟩ := List.mem_map.mp hkv
    simp
    intro e
    have e2 : q.1 = k := by omega
    exact h (List.mem_map.mpr ⟨q, hq, e2⟩)
  rw [this]
  simp [eD]
def S__law_homes_right : List Dat → (Dat → Prop) → Prop := fun ds P => ∃ b : Bool, ds = [.cell, .bl b] ∧ P (.bl true)
theorem len__law_homes_right (ds : List Dat) (Q : Dat → Prop) (h : S__law_homes_right ds Q) : ds.length = P__law_homes_right.length := by
  obtain ⟨b, rfl, _⟩ := h; rfl
section
variable {P : Program} {w : World} {K : PySem.W.Frag} {mg : Str → Option Value} {base : Heap}
theorem ok__law_homes_right (g : Fx K mg base) : FnOk P w K mg base L2.CX0 8 g.f__law_homes_right g.fd__law_homes_right P__law_homes_right (spF 1000000 S__law_homes_right) := by
  refine okD g.F__law_homes_right sc__law_homes_right len__law_homes_right (fun cdv A outer s H E hr => ?_)
  have nd := (sc__law_homes_right).nd
  refine ⟨_, SDs.cost (sds_cons (sd_mul (xN := 0) (is := [2, 3]) (pmd_cons (m := .rep) (pd_op op_addA od_add (pd_int).toSh ((pd_call (ok__law_take g) (hr.mono (by decide)) (by rfl) g.g__law_take g.F__law_take.kp (b__law_take g) (pad_cons (pd_var (pv 0)) (pad_cons pd_int pad_nil)))).toSh) (pmd_cons (m := .rep) (pd_call (ok__law_take g) (hr.mono (by decide)) (by rfl) g.g__law_take g.F__law_take.kp (b__law_take g) (pad_cons (pd_var (pv 0)) (pad_cons pd_int pad_nil))) pmd_nil)) rfl rfl rfl (pgs_cons (pg_name (i := 2) nd rfl (.inl rfl)) (pgs_cons (pg_name (i := 3) nd rfl (.inr rfl)) pgs_nil))) (sds_cons (sd_asg (i := 4) (pd_call (ok__law_mixed g) (hr.mono (by decide)) (by rfl) g.g__law_mixed g.F__law_mixed.kp (b__law_mixed g) (pad_cons (pd_var (pv 0)) (pad_cons (pd_var (pv 3)) pad_nil))) nd rfl (.inr rfl)) (sds_cons (sd_asg (i := 5) (pd_callTy call_tuple_ofF cd_tup (by rfl) g.b_tuple boot_tuple (phd_cons ((pd_lc 1024 rfl nd (pid_range1 (by rfl) g.b_range (pad_cons (pd_var (pv 2)) pad_nil)) (blkOk_by (own := [("k", 22)]) (by kernel_rfl)) (fun _ _ _ _ _ => (pgd_name (i := 22) nd rfl (by first | exact .inl rfl | exact .inr rfl))) (fun _ _ _ _ _ => ptsd_nil) (fun _ _ _ _ _ => (pd_if ((pwd_and (ptd_cmp op_lt od_C ((pd_var (pv 22))).toSh ((pd_var (pv 3))).toSh (nomark _)) (pwd_and1 (ptd_cmp (op_eqD (ru0 hr)) od_eq ((pd_call (ok__law_take g) (hr.mono (by decide)) (by rfl) g.g__law_take g.F__law_take.kp (b__law_take g) (pad_cons (pd_var (pv 0)) (pad_cons pd_int pad_nil)))).toSh (pd_int).toSh (nomark _))))).pt (pd_ix (ix_all (ru1 hr)) od_ix ((pd_var (pv 4))).toSh ((pd_var (pv 22))).toSh (fun _ _ => rfl)) pd_non)))).toSh phd_nil)) nd rfl (.inr rfl)) (sds_cons (sd_asg (i := 6) (pd_if (ptd_cmp op_gt od_C ((pd_var (pv 3))).toSh (pd_int).toSh (nomark _)) (pd_call (ok__law_rankings g) (hr.mono (by decide)) (by rfl) g.g__law_rankings g.F__law_rankings.kp (b__law_rankings g) (pad_cons (pd_var (pv 0)) (pad_cons (pd_var (pv 2)) (pad_cons (pd_var (pv 3)) (pad_cons (pd_cmp (op_eqD (ru0 hr)) od_eq ((pd_call (ok__law_take g) (hr.mono (by decide)) (by rfl) g.g__law_take g.F__law_take.kp (b__law_take g) (pad_cons (pd_var (pv 0)) (pad_cons pd_int pad_nil)))).toSh (pd_int).toSh (nomark _)) pad_nil))))) (pd_op op_mulA od_mul ((pd_tup (pad_cons (pd_tup pad_nil) pad_nil))).toSh ((pd_var (pv 2))).toSh)) nd rfl (.inr rfl)) (sds_cons (sd_asg (i := 7) (pd_callTy call_tuple_ofF cd_tup (by rfl) g.b_tuple boot_tuple (phd_cons ((pd_call (ok__law_mixed g) (hr.mono (by decide)) (by rfl) g.g__law_mixed g.F__law_mixed.kp (b__law_mixed g) (pad_cons (pd_var (pv 0)) (pad_cons (pd_var (pv 2)) pad_nil)))).toSh phd_nil)) nd rfl (.inl rfl)) (sds_cons (sd_asg (i := 8) (pd_if (ptd_val (pd_var (pv 1))) (pd_make g.M_Homes (okI_Homes g) (hr.mono (by decide)) (by rfl) g.g_Homes (bI_Homes g) (pad_cons (pd_var (pv 6)) (pad_cons (pd_var (pv 3)) (pad_cons (pd_var (pv 5)) (pad_cons (pd_var (pv 7)) pad_nil))))) (pd_makeK0 g.M_Homes (okI_Homes g) (hr.mono (by decide)) (by rfl) g.g_Homes (kbI_Homes_3_2_1_0 g) (pkd_cons (pd_var (pv 7)) (pkd_cons (pd_var (pv 5)) (pkd_cons (pd_var (pv 3)) (pkd_cons (pd_var (pv 6)) pkd_nil)))))) nd rfl (.inl rfl)) (sds_cons (sd_asg (i := 9) ((pd_lc 1024 rfl nd (pid_range1 (by rfl) g.b_range (pad_cons (pd_var (pv 2)) pad_nil)) (blkOk_by (own := [("k", 22)]) (by kernel_rfl)) (fun _ _ _ _ _ => (pgd_name (i := 22) nd rfl (by first | exact .inl rfl | exact .inr rfl))) (fun _ _ _ _ _ => ptsd_nil) (fun _ _ _ _ _ => (pd_call (ok__law_wanted g) (hr.mono (by decide)) (by rfl) g.g__law_wanted g.F__law_wanted.kp (b__law_wanted g) (pad_cons (pd_ix (ix_all (ru1 hr)) od_ix ((pd_var (pv 6))).toSh ((pd_var (pv 22))).toSh (fun _ _ => rfl)) (pad_cons (pd_ix (ix_all (ru1 hr)) od_ix ((pd_var (pv 5))).toSh ((pd_var (pv 22))).toSh (fun _ _ => rfl)) pad_nil)))))).frz nd rfl (.inr rfl)) (sds_cons (sd_asg (i := 10) (pd_call (ok__law_row g) (hr.mono (by decide)) (by rfl) g.g__law_row g.F__law_row.kp (b__law_row g) (pad_cons (pd_call (ok_housed g) (hr.mono (by decide)) (by rfl) g.g_housed g.F_housed.kp (b_housed g) (pad_cons (pd_var (pv 8)) pad_nil)) (pad_cons (pd_var (pv 2)) pad_nil))) nd rfl (.inr rfl)) (sds_cons (sd_if (ptd_cmp (op_neD (ru0 hr)) od_ne ((pd_lc 1024 rfl nd (pid_range1 (by rfl) g.b_range (pad_cons (pd_var (pv 2)) pad_nil)) (blkOk_by (own := [("k", 22)]) (by kernel_rfl)) (fun _ _ _ _ _ => (pgd_name (i := 22) nd rfl (by first | exact .inl rfl | exact .inr rfl))) (fun _ _ _ _ _ => (ptsd_one ((pwd_and (ptd_cmp op_isnA od_isn ((pd_ix (ix_all (ru1 hr)) od_ix ((pd_var (pv 5))).toSh ((pd_var (pv 22))).toSh (fun _ _ => rfl))).toSh (pd_non).toSh (nomark _)) (pwd_and1 (ptd_cmp (op_notinA (ru hr)) od_notin ((pd_ix (ix_all (ru1 hr)) od_ix ((pd_var (pv 10))).toSh ((pd_var (pv 22))).toSh (fun _ _ => rfl))).toSh ((pd_ix (ix_all (ru1 hr)) od_ix ((pd_var (pv 9))).toSh ((pd_var (pv 22))).toSh (fun _ _ => rfl))).toSh (by with_unfolding_all rfl))))).pt)) (fun _ _ _ _ _ => (pd_var (pv 22))))).toSh ((pd_lst pad_nil)).toSh (nomark _)) (sds_cons (sd_ret pd_bl) sds_nil) sds_nil) (sds_cons (sd_asg (i := 11) (pd_call (ok__law_all_homes g) (hr.mono (by decide)) (by rfl) g.g__law_all_homes g.F__law_all_homes.kp (b__law_all_homes g) (pad_cons (pd_var (pv 9)) pad_nil)) nd rfl (.inl rfl)) (sds_cons (sd_if ((pwd_or (ptd_cmp (op_notinA (ru hr)) od_notin ((pd_var (pv 10))).toSh ((pd_var (pv 11))).toSh (by with_unfolding_all rfl)) (pwd_or1 (ptd_cmp op_isnA od_isn ((pd_callK0 (ok_improving g) (hr.mono (by decide)) (by rfl) g.g_improving g.F_improving.kp (kb_improving_1_0 g) (pkd_cons (pd_var (pv 10)) (pkd_cons (pd_var (pv 8)) pkd_nil)))).toSh (pd_non).toSh (nomark _))))).pt (sds_cons (sd_ret pd_bl) sds_nil) sds_nil) (sds_cons (sd_for 1024 PassesOwn.never rfl (pid_range1 (by rfl) g.b_range (pad_cons pd_int pad_nil)) (pgd_name (i := 12) nd rfl (.inl rfl)) (sds_cons (sd_asg (i := 13) (pd_ix (ix_all (ru1 hr)) od_ix ((pd_var (pv 11))).toSh ((pd_call (ok__law_take g) (hr.mono (by decide)) (by rfl) g.g__law_take g.F__law_take.kp (b__law_take g) (pad_cons (pd_var (pv 0)) (pad_cons (pd_callB call_lenA cd_len (by rfl) g.b_len boot_len (phd_cons ((pd_var (pv 11))).toSh phd_nil)) pad_nil)))).toSh (fun _ _ => rfl)) nd rfl (.inr rfl)) (sds_cons (sd_asg (i := 14) (pd_cmp (op_neD (ru0 hr)) od_ne ((pd_lc 1024 rfl nd (pid_list (pd_var (pv 11))) (blkOk_by (own := [("row", 23)]) (by kernel_rfl)) (fun _ _ _ _ _ => (pgd_name (i := 23) nd rfl (by first | exact .inl rfl | exact .inr rfl))) (fun _ _ _ _ _ => (ptsd_one (ptd_val (pd_call (ok__law_improves g) (hr.mono (by decide)) (by rfl) g.g__law_improves g.F__law_improves.kp (b__law_improves g) (pad_cons (pd_var (pv 9)) (pad_cons (pd_var (pv 23)) (pad_cons (pd_var (pv 13)) pad_nil))))))) (fun _ _ _ _ _ => (pd_var (pv 23))))).toSh ((pd_lst pad_nil)).toSh (nomark _)) nd rfl (.inl rfl)) (sds_cons (sd_asg (i := 15) (pd_if (ptd_val (pd_var (pv 1))) (pd_callK0 (ok_improving g) (hr.mono (by decide)) (by rfl) g.g_improving g.F_improving.kp (kb_improving_1_0 g) (pkd_cons (pd_var (pv 13)) (pkd_cons (pd_var (pv 8)) pkd_nil))) (pd_call (ok_improving g) (hr.mono (by decide)) (by rfl) g.g_improving g.F_improving.kp (b_improving g) (pad_cons (pd_var (pv 8)) (pad_cons (pd_var (pv 13)) pad_nil)))) nd rfl (.inl rfl)) (sds_cons (sd_if ((pwd_or (ptd_cmp (op_neD (ru0 hr)) od_ne ((pd_cmp op_isnA od_isn ((pd_var (pv 15))).toSh (pd_non).toSh (nomark _))).toSh ((pd_var (pv 14))).toSh (nomark _)) (pwd_or1 ((pwd_and (ptd_val (pd_var (pv 14))) (pwd_and1 ((pwd_or (ptd_not (ptd_val (pd_call (ok__law_is_chain g) (hr.mono (by decide)) (by rfl) g.g__law_is_chain g.F__law_is_chain.kp (b__law_is_chain g) (pad_cons (pd_var (pv 9)) (pad_cons (pd_var (pv 13)) (pad_cons (pd_var (pv 15)) pad_nil)))))) (pwd_or1 (ptd_cmp op_isnA od_isn ((pd_call (ok_is_improving g) (hr.mono (by decide)) (by rfl) g.g_is_improving g.F_is_improving.kp (b_is_improving g) (pad_cons (pd_var (pv 8)) (pad_cons (pd_var (pv 13)) (pad_cons (pd_var (pv 15)) pad_nil))))).toSh (pd_bl).toSh (nomark _))))).pt))).pt))).pt (sds_cons (sd_ret pd_bl) sds_nil) sds_nil) (sds_cons (sd_asg (i := 16) (pd_callTy call_tuple_ofF cd_tup (by rfl) g.b_tuple boot_tuple (phd_cons ((pd_slice ((pd_call (ok__law_mixed g) (hr.mono (by decide)) (by rfl) g.g__law_mixed g.F__law_mixed.kp (b__law_mixed g) (pad_cons (pd_var (pv 0)) (pad_cons (pd_var (pv 2)) pad_nil)))).toSh pod_none (pod_some (pd_op op_addA od_add (pd_int).toSh ((pd_call (ok__law_take g) (hr.mono (by decide)) (by rfl) g.g__law_take g.F__law_take.kp (b__law_take g) (pad_cons (pd_var (pv 0)) (pad_cons (pd_var (pv 2)) pad_nil)))).toSh)))).toSh phd_nil)) nd rfl (.inl rfl)) (sds_cons (sd_asg (i := 17) (pd_if (ptd_cmp op_gt od_C ((pd_var (pv 3))).toSh (pd_int).toSh (nomark _)) (pd_ix (ix_all (ru1 hr)) od_ix ((pd_lst (pad_cons pd_non (pad_cons (pd_call (ok__law_take g) (hr.mono (by decide)) (by rfl) g.g__law_take g.F__law_take.kp (b__law_take g) (pad_cons (pd_var (pv 0)) (pad_cons (pd_var (pv 3)) pad_nil))) pad_nil)))).toSh ((pd_call (ok__law_take g) (hr.mono (by decide)) (by rfl) g.g__law_take g.F__law_take.kp (b__law_take g) (pad_cons (pd_var (pv 0)) (pad_cons pd_int pad_nil)))).toSh (fun _ _ => rfl)) pd_non) nd rfl (.inl rfl)) (sds_cons (sd_asg (i := 18) (pd_if (ptd_val (pd_var (pv 1))) (pd_callK0 (ok_is_improving g) (hr.mono (by decide)) (by rfl) g.g_is_improving g.F_is_improving.kp (kb_is_improving_2_1_0 g) (pkd_cons (pd_tup (pad_cons (pd_var (pv 16)) (pad_cons (pd_var (pv 17)) pad_nil))) (pkd_cons (pd_var (pv 13)) (pkd_cons (pd_var (pv 8)) pkd_nil)))) (pd_call (ok_is_improving g) (hr.mono (by decide)) (by rfl) g.g_is_improving g.F_is_improving.kp (b_is_improving g) (pad_cons (pd_var (pv 8)) (pad_cons (pd_var (pv 13)) (pad_cons (pd_tup (pad_cons (pd_var (pv 16)) (pad_cons (pd_var (pv 17)) pad_nil))) pad_nil))))) nd rfl (.inl rfl)) (sds_cons (sd_if ((pwd_or (ptd_not (ptd_val (pd_callB call_isi cd_isi (by rfl) g.b_isinstance boot_isinstance (phd_cons ((pd_var (pv 18))).toSh (phd_cons ((pd_ty (pe_bltn (by rfl) g.b_bool boot_bool rfl))).toSh phd_nil))))) (pwd_or1 (ptd_cmp (op_neD (ru0 hr)) od_ne ((pd_var (pv 18))).toSh ((pd_call (ok__law_is_chain g) (hr.mono (by decide)) (by rfl) g.g__law_is_chain g.F__law_is_chain.kp (b__law_is_chain g) (pad_cons (pd_var (pv 9)) (pad_cons (pd_var (pv 13)) (pad_cons (pd_tup (pad_cons (pd_var (pv 16)) (pad_cons (pd_var (pv 17)) pad_nil))) pad_nil))))).toSh (nomark _))))).pt (sds_cons (sd_ret pd_bl) sds_nil) sds_nil) sds_nil))))))))) (sds_cons (sd_asgO (i := 19) pd_dnewK nd rfl (.inr rfl)) (sds_cons (sd_for 1024 PassesOwn.never rfl (pid_list (pd_call (ok_turns g) (hr.mono (by decide)) (by rfl) g.g_turns g.F_turns.kp (b_turns g) (pad_cons (pd_var (pv 8)) pad_nil))) (pgd_name (i := 12) nd rfl (.inl rfl)) (sds_cons (sd_for 1024 PassesOwn.never rfl (pid_list (pd_var (pv 12))) (pgd_tup (n := 2) rfl (pgsd_cons (pgd_name (i := 20) nd rfl (.inl rfl)) (pgsd_cons (pgd_name (i := 21) nd rfl (.inl rfl)) pgsd_nil))) (sds_cons (sd_if (ptd_cmp (op_inA (ru hr)) od_in ((pd_var (pv 20))).toSh (pd_varS (pv 19)) (by with_unfolding_all rfl)) (sds_cons (sd_ret pd_bl) sds_nil) sds_nil) (sds_cons (sd_putK (ru1 hr) (pv 19) (pd_var (pv 20)) (pd_var (pv 21))) sds_nil))) sds_nil)) (sds_cons (sd_ret (pd_call (ok__law_same g) (hr.mono (by decide)) (by rfl) g.g__law_same g.F__law_same.kp (b__law_same g) (pad_cons ((pd_lc 1024 rfl nd (pid_range1 (by rfl) g.b_range (pad_cons (pd_var (pv 2)) pad_nil)) (blkOk_by (own := [("k", 22)]) (by kernel_rfl)) (fun _ _ _ _ _ => (pgd_name (i := 22) nd rfl (by first | exact .inl rfl | exact .inr rfl))) (fun _ _ _ _ _ => ptsd_nil) (fun _ _ _ _ _ => (pd_get2 (ru1 hr) (pd_varS (pv 19)) (pd_var (pv 22)) (pd_neg pd_int))))).frz (pad_cons ((pd_callTy call_list_of cd_lst (by rfl) g.b_list boot_list (phd_cons ((pd_var (pv 10))).toSh phd_nil))).frz pad_nil)))) sds_nil))))))))))))))) (by decide), fun ds Q h => ?_⟩
  obtain ⟨named, rfl, hQ⟩ := h
  simp
  refine take_in 4 rfl (by decide) (by decide) fun a ha => add_in (j := 1) rfl (take_in 5 rfl (by decide) (by decide) fun h hh => ?_)
  have hn : 1 + a ≤ 4 := by omega
  have hn1 : 1 ≤ 1 + a := by omega
  generalize 1 + a = n at *
  refine ⟨h, rfl, by omega, fun r hr => ?_⟩
  have hrl : r.length = h := by have := hr.length_eq; simpa using this
  have hrn : r.Nodup := hr.nodup_iff.mpr List.nodup_range
  have hrm : ∀ x ∈ r, x < h := fun x hx => List.mem_range.mp (hr.mem_iff.mp hx)
  refine lc_anyI (α := Option Nat) (n := n) oD (fun k x => ∀ q, x = some q → r[k]? = some q) (fun P h => by simpa [nD] using h) (by omega) (by omega) (fun k hk R R0 hR => ?_) (fun l hl hp => ?_)
  · simp
    by_cases e : k < h
    · refine .inr ⟨by simpa using e, take_in 2 rfl (by decide) (by decide) fun c hc => ⟨by simp, ?_⟩⟩
      have hk' : k < r.length := by omega
      by_cases z : c = 0
      · refine .inr ⟨by subst z; rfl, Eq.mpr (fIx_lst hk') ?_⟩
        exact hR (some (at0 r k)) fun q hq => by cases hq; simp [at0, hk']
      · refine .inl ⟨?_, hR none fun q hq => by cases hq⟩
        show eqD (nD c) (nD 0) = false
        simp [z]
    · refine .inl ⟨by simpa using e, hR none fun q hq => by cases hq⟩
  refine tup_in ?_
  have fc : ∀ P : Dat → Prop, P (.bl (decide (0 < h))) → fC (fun i j => decide (j < i)) (nD h) (Dat.int 0) P := fun P hP => by
    show P (.bl (decide ((0 : Int) < (h : Int))))
    have : decide ((0 : Int) < (h : Int)) = decide (0 < h) := by rw [decide_eq_decide]; omega
    rw [this]
    exact hP
  refine fc _ ?_
  refine or_same (G1 := fun P => fMul (.tup [.tup []]) (nD n) P) (G2 := fun P => S__law_take [.cell, .int 2] fun d => pl 20 d = true ∧ S__law_rankings [.cell, nD n, nD h, .bl (eqD d (.int 0))] P) (fun d => ∃ A, d = rks A ∧ A.length = n ∧ ∀ r ∈ A, RkOk h r) (fun e P hP => ?_) (fun e P hP => ?_) (fun d ⟨A, hd, hA, hAr⟩ => ?_)
  · have h0 : h = 0 := by simpa using e
    subst h0
    refine ⟨by omega, by omega, by simp, ?_⟩
    have e1 : (List.replicate ((n : Int)).toNat [Dat.tup []]).flatten = (List.replicate n ([] : List Nat)).map rk := by
      rw [rep_flat, List.map_replicate]
      rfl
    rw [e1]
    refine hP _ ⟨List.replicate n [], rfl, by simp, fun r hr => ?_⟩
    rw [(List.mem_replicate.mp hr).2]
    exact ⟨by simp, by simp, by omega⟩
  · have h0 : 0 < h := by simpa using e
    exact take_in 2 rfl (by decide) (by decide) fun c hc => ⟨by simp, n, h, _, rfl, by omega, h0, by omega, fun A hA => hP _ ⟨A, rfl, hA.1, hA.2.1⟩⟩
  subst hd
  refine ⟨n, rfl, by omega, fun od hod => tup_in ?_⟩
  have lget : ∀ p q, oat l p = some q → r[p]? = some q := fun p q e => by
    have hpl := oat_some_lt e
    refine hp p (oat l p) ?_ q e
    simp [oat, hpl]
  obtain ⟨V, h1, h2, h3, h4⟩ : ∃ V : HM, A = V.rs ∧ h = V.hs ∧ l = V.ow ∧ od = V.od := ⟨⟨A, h, l, od⟩, rfl, rfl, rfl, rfl⟩
  subst h1 h2 h3 h4 hA
  have ok : V.Ok := ⟨⟨by omega, by omega, hAr⟩, by omega, hl, fun p q e => hrm q (List.mem_of_getElem? (lget p q e)), fun p q c e1 e2 => by
    have z1 := lget p c e1
    have z2 := lget q c e2
    have l1 := (List.getElem?_eq_some_iff.mp z1).1
    exact ((List.getElem?_inj l1 hrn).mp (z1.trans z2.symm)).symm, hod⟩
  have hs4 : V.hs ≤ 4 := by omega
  refine ⟨V, rfl, ok, ?_⟩
  refine lc_rN (n := V.rs.length) (fun k => some (rk (wnt V k))) (fun P h => by simpa [nD] using h) (by omega) (by omega) (fun k hk R hR => ?_) ?_
  · simp
    refine Eq.mpr (fIx_rks hk) ?_
    have e1 : fIx (Dat.tup (List.map oD V.ow)) (nD k) = fun P => P (oD (oat V.ow k)) := by
      funext P
      exact fIx_out (by omega)
    rw [e1]
    refine ⟨row V.rs k, oat V.ow k, rfl, by have := (hAr _ (row_mem hk)).len; omega, ?_⟩
    have e2 : wntO (row V.rs k) (oat V.ow k) = wnt V k := by
      unfold wnt
      cases oat V.ow k <;> rfl
    rw [e2]
    exact hR
  rw [fm_map]
  refine ⟨V, rfl, ok, fun told ht => ?_⟩
  have ho := run_out ok ht
  have htl := ho.len
  refine ⟨told, by rw [htl], by omega, ?_⟩
  have hWm : (List.range V.rs.length).map (fun k => rk (wnt V k)) = ((List.range V.rs.length).map (wnt V)).map rk := by rw [List.map_map]; rfl
  rw [hWm]
  have hWl : ((List.range V.rs.length).map (wnt V)).length = V.rs.length := by simp
  have hWr : ∀ p, p < V.rs.length → row ((List.range V.rs.length).map (wnt V)) p = wnt V p := fun p hp => by simp [row, hp]
  have himp := fun (y x : List (Option Nat)) (hx : OutH V x) (hy : OutH V y) => imp_iff (x := x) (y := y) ok hx hy
  have chainS : ∀ (x : List (Option Nat)) (pe : List Nat) (la : Option Nat) (R : Dat → Prop), OutH V x → pe ≠ [] → pe.Nodup → (∀ p ∈ pe, p < V.rs.length) → R (.bl (decP (Chn V x pe la))) → S__law_is_chain [.lst (((List.range V.rs.length).map (wnt V)).map rk), outD x, .tup [rk pe, oD la]] R := fun x pe la R h1 h2 h3 h4 h5 => ⟨V, x, pe, la, rfl, ok, h1, h2, h3, h4, h5⟩
  generalize (List.range V.rs.length).map (wnt V) = W at *
  have outWH : ∀ y, OutW W y ↔ OutH V y := fun y => by
    constructor
    · rintro ⟨a, b, c⟩
      rw [hWl] at a
      refine ⟨a, b, fun p q e => ?_⟩
      have := c p q e
      rw [hWr p (by have := oat_some_lt e; omega)] at this
      exact this
    · rintro ⟨a, b, c⟩
      refine ⟨by rw [hWl]; exact a, b, fun p q e => ?_⟩
      rw [hWr p (by have := oat_some_lt e; omega)]
      exact c p q e
  refine lc_rN (n := V.rs.length) (fun k => none) (fun P h => by simpa [nD] using h) (by omega) (by omega) (fun k hk R hR => ?_) ?_
  · simp
    refine Eq.mpr (fIx_out (r := V.ow) (by omega)) ?_
    cases q : oat V.ow k with
    | none => exact .inl ⟨rfl, hR⟩
    | some c =>
      refine .inr ⟨rfl, Eq.mpr (fIx_out (by omega)) ?_⟩
      obtain ⟨d, e1, e2⟩ := run_own ok ht q
      rw [e1]
      have e3 : fIx (Dat.lst (W.map rk)) (nD k) = fun R => R (rk (wnt V k)) := by
        funext R
        have h2 := fIx_rks (ls := W) (a := k) (P := R) (by omega)
        rw [hWr _ hk] at h2
        exact h2
      rw [e3]
      exact Eq.mpr (fIn_rk (neg := true) (r := wnt V k) (a := d)) (.inl ⟨by simp [e2], hR⟩)
  rw [fm_none]
  refine ⟨by simp, .inl ⟨by simp [eqD_lnil], W, rfl, by omega, fun l => ?_, fun L hL hLl => ?_⟩⟩
  · rcases Nat.lt_or_ge l W.length with z | z
    · rw [hWr l (by omega)]
      have hw := wnt_ok ok (p := l) (by omega)
      have := nd_len hw.1 hw.2.1
      omega
    · rw [row_none z]
      simp
  have hLH : ∀ y, y ∈ L ↔ OutH V y := fun y => (hL y).trans (outWH y)
  refine fIn_outs (.inl ⟨by simp [(hLH told).mpr ho], ?_⟩)
  refine ⟨V, told, rfl, ok, ho, fun pe la c => (run_chn ok ht ho c).elim, fun _ => .inl ⟨rfl, ?_⟩⟩
  have hL0 : 0 < L.length := List.length_pos_of_mem ((hLH told).mpr ho)
  refine for_rN (n := 5) (fun P h => h) (by decide) (by decide) (fun i ε => ∃ x12 x13 x14 x15 x16 x17 x18 x19 x20 x21 x22 x23 : Sl, ε = [Sl.val Dat.cell, Sl.val (Dat.bl named), Sl.val (nD V.rs.length), Sl.val (nD V.hs),
          Sl.val (Dat.lst (List.map nD r)), Sl.val (outD V.ow), Sl.val (rks V.rs),
          Sl.val (rk V.od), Sl.val (Dat.obj g.C_Homes (fsH V)), Sl.val (.lst (W.map rk)), Sl.val (outD told), Sl.val (.lst (L.map outD)), x12, x13, x14, x15, x16, x17, x18, x19, x20, x21, x22, x23]) ⟨_, _, _, _, _, _, _, _, _, _, _, _, rfl⟩ (fun i ε hi ⟨x12, x13, x14, x15, x16, x17, x18, x19, x20, x21, x22, x23, hε⟩ => ?_) (fun ε ⟨x12, x13, x14, x15, x16, x17, x18, x19, x20, x21, x22, x23, hε⟩ => ?_)
  · subst hε
    simp
    refine take_in L.length rfl hL0 (by omega) fun t ht => ?_
    have fL : ∀ P : Dat → Prop, P (outD L[t]) → fIx (.lst (L.map outD)) (nD t) P := fun P h => ⟨outD L[t], atI_nat (by simp [ht]), h⟩
    refine fL _ ?_
    have hxL : L[t] ∈ L := List.getElem_mem ht
    generalize L[t] = x at hxL
    have hx := (hLH x).mp hxL
    refine lc_lst L outD (fun y => if impB W y x = true then some (outD y) else none) (fun P h => by simpa using h) (by omega) (fun y hy R hR => ?_) ?_
    · simp
      refine ⟨W, y, x, rfl, by omega, (outWH y).mpr ((hLH y).mp hy), (outWH x).mpr hx, ?_⟩
      by_cases e : impB W y x = true
      · exact .inr ⟨by rw [e], by simpa [e] using hR⟩
      · exact .inl ⟨by simp [e], by simpa [e] using hR⟩
    rw [fm_if]
    refine ⟨by simp [pl_outD], ?_⟩
    rw [eqD_lnil]
    have hdue : decide ((L.filter fun y => impB W y x).map outD = []) = !decP (∃ pe la, Chn V x pe la) := by
      rw [Bool.eq_iff_iff, decide_eq_true_eq, List.map_eq_nil_iff, List.filter_eq_nil_iff, Bool.not_eq_true', ← Bool.not_eq_true, decP_iff]
      constructor
      · rintro h ⟨pe, la, hc⟩
        obtain ⟨y, hy, hi⟩ := chn_imp ok hx hc
        exact h y ((hLH y).mpr hy) ((himp y x hx hy).mpr hi)
      · intro h y hy hi
        have hy := (hLH y).mp hy
        exact h (imp_chn ok hx hy ((himp y x hx hy).mp hi))
    rw [hdue]
    have jud : ∀ (pe : List Nat) (la : Option Nat), pe ≠ [] → pe.Nodup → (∀ p ∈ pe, p < V.rs.length) → (∀ c, la = some c → c < V.hs) → S_is_improving g.C_Homes [Dat.obj g.C_Homes (fsH V), outD x, Dat.tup [rk pe, oD la]] fun d_9 => ∃ a, tyN d_9 = some a ∧ (isT a "bool" = false ∧ Q (Dat.bl false) ∨ isT a "bool" = true ∧ S__law_is_chain [Dat.lst (List.map rk W), outD x, Dat.tup [rk pe, oD la]] fun e => pl 20 d_9 = true ∧ pl 20 e = true ∧ (eqD d_9 e = true ∨ eqD d_9 e = false ∧ Q (Dat.bl false))) := fun pe la h1 h2 h3 h4 =>
      ⟨V, x, pe, la, rfl, ok, hx, h1, h2, h3, h4, _, rfl, .inr ⟨rfl, chainS x pe la _ hx h1 h2 h3 ⟨by simp, by simp, .inl (by simp [eqD])⟩⟩⟩
    have drawn : ∀ (F : Dat → Prop), (∀ q : List Nat, q ≠ [] → q.Nodup → (∀ p ∈ q, p < V.rs.length) → F (rk q)) → S__law_mixed [Dat.cell, nD V.rs.length] fun d => S__law_take [Dat.cell, nD V.rs.length] fun e => fAdd (Dat.int 1) e fun d_1 => ∃ i, d_1 = Dat.int i ∧ fSl d none (some i) fun d => fTup [d] F := fun F hF =>
      ⟨V.rs.length, rfl, by omega, fun q hq => take_in V.rs.length rfl (by omega) (by omega) fun t2 ht2 => add_in (j := 1) rfl ⟨_, rfl, by
        have sl : ∀ (xs : List Dat) (lo hi : Option Int) (R : Dat → Prop), fSl (.lst xs) lo hi R = R (.lst (cut xs lo hi)) := fun _ _ _ _ => rfl
        rw [sl, cutT, ← List.map_take]
        have hql : q.length = V.rs.length := by have := hq.length_eq; simpa using this
        refine tup_in (hF (q.take (1 + t2)) (fun z => ?_) ((hq.nodup_iff.mpr List.nodup_range).sublist (List.take_sublist _ _)) fun p hp => List.mem_range.mp (hq.mem_iff.mp (List.mem_of_mem_take hp)))
        have := congrArg List.length z
        rw [List.length_take] at this
        simp only [List.length_nil] at this
        omega⟩⟩
    obtain ⟨JJ, hJJ⟩ : ∃ JJ : List Nat → Dat → Prop, JJ = fun pe la => S_is_improving g.C_Homes [Dat.obj g.C_Homes (fsH V), outD x, Dat.tup [rk pe, la]] fun d_9 => ∃ a, tyN d_9 = some a ∧ (isT a "bool" = false ∧ Q (Dat.bl false) ∨ isT a "bool" = true ∧ S__law_is_chain [Dat.lst (List.map rk W), outD x, Dat.tup [rk pe, la]] fun e => pl 20 d_9 = true ∧ pl 20 e = true ∧ (eqD d_9 e = true ∨ eqD d_9 e = false ∧ Q (Dat.bl false))) := ⟨_, rfl⟩
    have jud2 : ∀ (pe : List Nat) (la : Option Nat), pe ≠ [] → pe.Nodup → (∀ p ∈ pe, p < V.rs.length) → (∀ c, la = some c → c < V.hs) → JJ pe (oD la) := fun pe la h1 h2 h3 h4 => by rw [hJJ]; exact jud pe la h1 h2 h3 h4
    have fin : ∀ q : List Nat, q ≠ [] → q.Nodup → (∀ p ∈ q, p < V.rs.length) → (V.hs = 0 ∧ JJ q Dat.non) ∨ (0 < V.hs ∧ S__law_take [Dat.cell, nD V.hs] fun d_2 => S__law_take [Dat.cell, Dat.int 2] fun e => fIx (Dat.lst [Dat.non, d_2]) e (JJ q)) := fun q h1 h2 h3 => by
      rcases Nat.eq_zero_or_pos V.hs with z | z
      · exact .inl ⟨z, jud2 q none h1 h2 h3 fun c e => by cases e⟩
      · refine .inr ⟨z, take_in V.hs rfl z (by omega) fun c hc => take_in 2 rfl (by decide) (by decide) fun u hu => ?_⟩
        have hu2 : u = 0 ∨ u = 1 := by omega
        rcases hu2 with rfl | rfl
        · exact ⟨.non, atI_nat (j := 0) rfl, jud2 q none h1 h2 h3 fun c e => by cases e⟩
        · exact ⟨nD c, atI_nat (j := 1) rfl, jud2 q (some c) h1 h2 h3 fun d e => by cases e; exact hc⟩
    subst hJJ
    refine ⟨V, x, rfl, ok, hx, fun pe la hc => ?_, fun hno => ?_⟩
    · rw [decP_iff.mpr ⟨pe, la, hc⟩]
      have hlt : ∀ c, la = some c → c < V.hs := fun c e => by
        have hpl : 0 < pe.length := List.length_pos_iff.mpr hc.ne
        have e1 : pe[pe.length - 1]? = some pe[pe.length - 1] := List.getElem?_eq_getElem (by omega)
        obtain ⟨d, h1, h2⟩ := hc.gt _ _ e1
        rw [gt_last_some (List.getElem?_eq_none_iff.mpr (by omega)) e] at h1
        cases h1
        have hpm := hc.lt _ (List.mem_of_getElem? e1)
        exact (wnt_ok ok hpm).2.1 _ (btr_wnt ok hpm h2)
      refine .inl ⟨by simp [eqD, DL.isNon], .inr ⟨rfl, chainS x pe la _ hx hc.ne hc.nd hc.lt ?_⟩⟩
      rw [decP_iff.mpr hc]
      refine .inr ⟨rfl, V, x, pe, la, rfl, ok, hx, hc.ne, hc.nd, hc.lt, hlt, ?_⟩
      rw [decP_iff.mpr hc]
      simp
      exact drawn _ fin
    · have : decP (∃ pe la, Chn V x pe la) = false := by
        cases q : decP (∃ pe la, Chn V x pe la) with
        | false => rfl
        | true => exact (hno (decP_iff.mp q)).elim
      rw [this]
      exact .inl ⟨by simp [eqD, DL.isNon], .inl ⟨rfl, drawn _ fin⟩⟩
  · subst hε
    simp
    have RV := run_V ok
    have hT : (allT V).length ≤ 20 := Nat.le_trans (turns_len ok) (by omega)
    have hfl : (allT V).flatten.length ≤ 20 := by
      have := nd_len RV.nd (fun x hx => List.mem_range.mp ((RV.mem x).mp hx))
      rw [List.length_map] at this
      omega
    refine for_mapL (allT V) rowsD (fun P h => by simp; exact ⟨V, rfl, ok, h⟩) (by omega) (fun j ε => ∃ (x12 x20 x21 x22 x23 : Sl), ε = [Sl.val Dat.cell, Sl.val (Dat.bl named), Sl.val (nD V.rs.length), Sl.val (nD V.hs),
      Sl.val (Dat.lst (List.map nD r)), Sl.val (outD V.ow), Sl.val (rks V.rs), Sl.val (rk V.od),
      Sl.val (Dat.obj g.C_Homes (fsH V)), Sl.val (Dat.lst (List.map rk W)), Sl.val (outD told),
      Sl.val (Dat.lst (List.map outD L)), x12, x13, x14, x15, x16, x17, x18, Sl.own (Dat.dct (eD ((allT V).take j).flatten)), x20, x21, x22, x23]) ⟨_, _, _, _, _, rfl⟩ (fun j t ε ht2 ⟨x12, x20, x21, x22, x23, hε⟩ => ?_) (fun ε ⟨x12, x20, x21, x22, x23, hε⟩ => ?_)
    · subst hε
      have htk : ((allT V).take (j + 1)).flatten = ((allT V).take j).flatten ++ t := by rw [List.take_add_one, ht2]; simp
      have htl : t.length ≤ 20 := by
        have := (List.sublist_flatten_of_mem (List.mem_of_getElem? ht2)).length_le
        omega
      simp
      refine for_mapL t rwD (fun P h => by simp; exact h) (by omega) (fun i ε => ∃ (x20 x21 x22 x23 : Sl), ε = [Sl.val Dat.cell, Sl.val (Dat.bl named), Sl.val (nD V.rs.length), Sl.val (nD V.hs),
      Sl.val (Dat.lst (List.map nD r)), Sl.val (outD V.ow), Sl.val (rks V.rs), Sl.val (rk V.od),
      Sl.val (Dat.obj g.C_Homes (fsH V)), Sl.val (Dat.lst (List.map rk W)), Sl.val (outD told),
      Sl.val (Dat.lst (List.map outD L)), Sl.val (rowsD t), x13, x14, x15, x16, x17, x18, Sl.own (Dat.dct (eD (((allT V).take j).flatten ++ t.take i))), x20, x21, x22, x23]) ⟨x20, x21, x22, x23, by simp⟩ (fun i q ε hq ⟨x20, x21, x22, x23, hε⟩ => ?_) (fun ε ⟨x20, x21, x22, x23, hε⟩ => ?_)
      · subst hε
        obtain ⟨p, b⟩ := q
        have hti : t.take (i + 1) = t.take i ++ [(p, b)] := by rw [List.take_add_one, hq]; rfl
        have hsub : (((allT V).take j).flatten ++ t.take (i + 1)).Sublist (allT V).flatten := by
          refine List.Sublist.trans (List.Sublist.append_left (List.take_sublist _ _) _) ?_
          rw [← htk]
          conv => rhs; rw [← List.take_append_drop (j + 1) (allT V)]
          rw [List.flatten_append]
          exact List.sublist_append_left _ _
        have hnd := RV.nd.sublist (hsub.map (·.1))
        have hlen := hsub.length_le
        rw [hti, ← List.append_assoc, List.map_append, List.nodup_append] at hnd
        have hnp : p ∉ kyE (((allT V).take j).flatten ++ t.take i) := fun hm => hnd.2.2 p hm p (by simp) rfl
        rw [hti, ← List.append_assoc] at hlen
        have hput := put_eD (w := b) hnp
        simp [rwD]
        rw [hti, ← List.append_assoc]
        generalize ((allT V).take j).flatten ++ t.take i = l2 at *
        have hlk := look_eD.2 hnp
        have hl2 : (eD l2).length < 100000 := by
          simp [eD]
          rw [List.length_append] at hlen
          omega
        refine ⟨_, rfl, ?_⟩
        rw [hlk]
        exact .inl ⟨rfl, hl2, hput⟩
      · subst hε
        simp [htk]
    · subst hε
      simp
      refine lc_rN (n := V.rs.length) (fun k => some (oD (oat told k))) (fun P h => by simpa [nD] using h) (by omega) (by omega) (fun k hk R hR => ?_) ?_
      · simp
        have hkm : k ∈ kyE (allT V).flatten := (RV.mem k).mpr (List.mem_range.mpr hk)
        obtain ⟨b, h1, h2⟩ := look_eD.1 hkm
        rw [h2]
        have := ht.2.1 k b h1
        rw [this] at hR
        exact hR
      · rw [fm_map]
        have e : (List.range V.rs.length).map (fun k => oD (oat told k)) = told.map oD := by
          apply List.ext_getElem
          · simp [htl]
          · intro i h1 h2
            simp at h1 h2
            simp [oat, h2]
        rw [e]
        refine .inl ⟨_, rfl, good_lst (by simp; omega) fun d hd => ?_, hQ⟩
        obtain ⟨y, _, rfl⟩ := List.mem_map.mp hd
        exact good_oD _ y
end
end K92
set_option maxRecDepth 100000
set_option maxHeartbeats 4000000
namespace K92
open PySem PySem.Spec PyProof.Rows L2 RZ DL
open C8 (call_isC pe_gc InsC)
open M90
variable [TabC]
section
variable {P : Program} {w : World} {K : PySem.W.Frag} {mg : Str → Option Value} {base : Heap}
def spCell (K : PySem.W.Frag) : Sp := fun vs H Q _ => ∃ (a : Addr) (ns : List Int) (k : Nat), vs = [.ref a, .int k] ∧ SqL K H a (ns.map V.int) ∧ k ≤ 100 ∧ ∀ z H', Ex H H' → Q (.int z) H'
theorem ok_cell (g : Fx K mg base) : FnOk P w K mg base L2.CX0 1 g.f__law_cell g.fd__law_cell P__law_cell (spCell K) := by
  refine g.F__law_cell.ok sc__law_cell (fun vs H Q E ⟨a, ns, k, e, _⟩ => by rw [e]; rfl) (fun cdv A outer s H vs Q E hr ⟨a, ns, k, e, hS, hk, hQ⟩ => ⟨_, PSs.nox (pss_one (ps_ret (pe_ifExp (pt_cmpR op_lt (pv 1) (pe_callB call_lenA (by rfl) g.b_len boot_len (pa_cons (pv 0) pa_nil)) (nomark _))
    (pe_ix ix_list (pv 0) (pv 1) (fun _ _ => rfl)) (pe_op op_add (pe_op op_mul pe_int (pv 1)) (pe_op op_mod (pe_callTy call_int1 (by rfl) g.b_int boot_int (pa_cons (pe_callB (cr_sum rfl) (by rfl) g.b_sum boot_sum (pa_cons (pe_slice sl_list (pv 0) po_none (po_some pe_int)) pa_nil)) pa_nil)) pe_int))))), ?_⟩)
  subst e
  refine ⟨_, rfl, _, rfl, .inl ⟨a, _, rfl, .inl hS, _, _, rfl, rfl, _, rfl, ?_⟩⟩
  rw [List.length_map]
  by_cases h : (k : Int) < ns.length
  · rw [decide_eq_true h]
    have hk2 : k < ns.length := by omega
    exact ⟨_, rfl, _, rfl, a, _, (k : Int), .int ns[k], rfl, rfl, hS, atI_nat (by rw [List.getElem?_map, List.getElem?_eq_getElem hk2]; rfl), hQ _ H (Ex.refl H)⟩
  · rw [decide_eq_false h]
    refine ⟨_, rfl, _, _, rfl, rfl, .inl (by omega), ?_⟩
    refine ⟨_, rfl, 1, rfl, a, _, rfl, hS, fun p hp => ?_⟩
    have e1 : cutV (ns.map V.int) none (some 1) = (ns.take 1).map V.int := by
      have := cutT (ns.map V.int) 1
      rw [List.map_take]
      exact this
    rw [e1]
    exact ⟨p, _, rfl, SqL.of upd_same, .inl ⟨_, rfl, _, _, rfl, rfl, (show (0 : Int) < 1000003 by decide), _, _, rfl, rfl, hQ _ _ (Ex.new hp)⟩⟩
def spBox : Sp := fun vs H Q _ => ∃ z : Int, vs = [.int z] ∧ ∀ p ws, H p = none → BoxV ws 0 → Q (.ref p) (upd H p (.lst ws))
theorem ok_box (g : Fx K mg base) : FnOk P w K mg base L2.CX0 1 g.f__law_box g.fd__law_box P__law_box spBox := by
  have ab : ∀ X : Cx, True := fun _ => trivial
  refine g.F__law_box.ok sc__law_box (fun vs H Q E ⟨z, e, _⟩ => by rw [e]; rfl) (fun cdv A outer s H vs Q E hr ⟨z, e, hQ⟩ => ⟨_, PSs.nox (pss_one (ps_ret (pe_lst (pa_cons (pe_callB call_abs (by rfl) g.b_abs boot_abs (pa_cons (pv 0) pa_nil)) (pa_cons (pe_cmpR op_ge (pe_callB call_abs (by rfl) g.b_abs boot_abs (pa_cons (pv 0) pa_nil)) (pe_op op_pow pe_int pe_int) (nomark _))
    (pa_cons (pe_op op_mod (pe_callTy call_int1 (by rfl) g.b_int boot_int (pa_cons (pe_callB call_abs (by rfl) g.b_abs boot_abs (pa_cons (pv 0) pa_nil)) pa_nil)) pe_int) (pa_cons pe_int pa_nil))))))), ?_⟩)
  subst e
  refine ⟨_, rfl, _, rfl, _, rfl, _, rfl, _, _, rfl, rfl, ⟨by decide, by decide, by decide⟩, _, _, rfl, rfl, _, rfl, _, rfl, .inl ⟨_, rfl, _, _, rfl, rfl, (show (0 : Int) < 2147483629 by decide), ?_⟩⟩
  have m0 : 0 ≤ (if z < 0 then -z else z) % 2147483629 := Int.emod_nonneg _ (by omega)
  have m1 : (if z < 0 then -z else z) % 2147483629 < 2147483629 := Int.emod_lt_of_pos _ (by omega)
  exact ⟨by show 4 ≤ sizeLine; rw [sizeLine_eq]; omega, fun p hp => hQ p _ hp ⟨_, _, _, _, rfl, by split <;> omega, m0, by omega, by omega, by omega⟩⟩
def spLaw (K : PySem.W.Frag) : Sp := fun vs H Q _ => ∃ (a : Addr) (ns : List Int), vs = [.ref a] ∧ SqL K H a (ns.map V.int) ∧ ns.length ≤ 63 ∧ (∀ P, TabC.tb = some P → LamX.TabS H P TabC.q) ∧ ∀ H', Q (.bl true) H'
theorem ok_law (g : Fx K mg base) : FnOk P w K mg base L2.CX0 10 g.f_law g.fd_law P_law (spLaw K) := by
  refine g.F_law.ok sc_law (fun vs H Q E ⟨a, ns, e, _⟩ => by rw [e]; rfl) (fun cdv A outer s H vs Q E hr ⟨a, ns, e, hS, hn, hT, hQ⟩ => ?_)
  have nd := (sc_law).nd
  refine ⟨_, PSs.nox (pss_cons (ps_for PassesOwn.never rfl (pi_range1 (by rfl) g.b_range (pa_cons (pe_callB (call_max2 rfl) (by rfl) g.b_max boot_max (pa_cons pe_int (pa_cons (pe_callB (call_min2 rfl) (by rfl) g.b_min boot_min (pa_cons pe_int (pa_cons (pe_callB call_lenA (by rfl) g.b_len boot_len (pa_cons (pv 0) pa_nil)) pa_nil))) pa_nil))) pa_nil)) (pg_name (i := 1) nd rfl (.inl rfl))
    (pss_cons (ps_set (i := 2) nd rfl (.inl rfl) (pe_call (ok_box g) (hr.mono (by decide)) (by rfl) g.g__law_box g.F__law_box.kp (b__law_box g) .nil pass0 (pa_cons (pe_call (ok_cell g) (hr.mono (by decide)) (by rfl) g.g__law_cell g.F__law_cell.kp (b__law_cell g) .nil pass0 (pa_cons (pv 0) (pa_cons (pv 1) pa_nil))) pa_nil)))
      (SDs.cost (c1 := 100000000) (sds_cons (sd_asg (i := 3) (pd_cmp (op_eqD (ru0 hr)) od_eq ((pd_call (ok__law_take g) (hr.mono (by decide)) (by rfl) g.g__law_take g.F__law_take.kp (b__law_take g) (pad_cons (pd_var (pv 2)) (pad_cons pd_int pad_nil)))).toSh (pd_int).toSh (nomark _)) nd rfl (.inl rfl)) (sds_cons (sd_for 4 PassesOwn.never rfl (pid_range1 (by rfl) g.b_range (pad_cons pd_int pad_nil)) (pgd_name (i := 4) nd rfl (.inl rfl)) (sds_cons (sd_if ((pwd_or (ptd_not (ptd_val (pd_call (ok__law_homes_right g) (hr.mono (by decide)) (by rfl) g.g__law_homes_right g.F__law_homes_right.kp (b__law_homes_right g) (pad_cons (pd_var (pv 2)) (pad_cons (pd_var (pv 3)) pad_nil))))) (pwd_or1 (ptd_not (ptd_val (pd_call (ok__law_lies_right g) (hr.mono (by decide)) (by rfl) g.g__law_lies_right g.F__law_lies_right.kp (b__law_lies_right g) (pad_cons (pd_var (pv 2)) (pad_cons (pd_not (pd_var (pv 3))) pad_nil)))))))).pt (sds_cons (sd_ret pd_bl) sds_nil) sds_nil) (sds_cons (sd_asg (i := 3) (pd_not (pd_var (pv 3))) nd rfl (.inl rfl)) sds_nil))) sds_nil)) (by decide)))) (pss_one (ps_ret pe_bl))), ?_⟩
  subst e
  refine ⟨_, rfl, .inl ⟨a, _, rfl, .inl hS, 2, (ns.map V.int).length, rfl, 1, _, rfl, _, rfl, ?_, ?_, ?_⟩⟩
  · split <;> split <;> omega
  · split <;> split <;> omega
  have hj : ∀ x : Int, x ≤ 2 → (if x > 1 then x else 1).toNat ≤ 2 := fun x hx => by split <;> omega
  have hj3 := hj (if ((ns.map V.int).length : Int) < 2 then ((ns.map V.int).length : Int) else 2) (by split <;> omega)
  refine for_range (fun i σ H' => σ.length = 5 ∧ σ[0]? = some (some (.ref a)) ∧ SqL K H' a (ns.map V.int) ∧ ∀ P, TabC.tb = some P → LamX.TabS H' P TabC.q) ⟨rfl, rfl, hS, hT⟩ (fun i σ H1 hi ⟨hl, h0, hS1, hT1⟩ => ?_) (fun σ H1 _ => hQ H1)
  refine ⟨.ref a, by rw [List.getElem?_set_ne (by decide)]; exact h0, .int (0 + (i : Int)), List.getElem?_set_self (by omega), a, ns, i, by simp, hS1, by omega, fun z H2 ex2 => ⟨z, rfl, fun p ws hp hb => ?_⟩⟩
  have ex3 : ∀ b o, H1 b = some o → upd H2 p (.lst ws) b = some o := fun b o hx => Ex.new hp _ _ (ex2 _ _ hx)
  have hT3 : ∀ P, TabC.tb = some P → LamX.TabS (upd H2 p (.lst ws)) P TabC.q := fun P hP => (hT1 P hP).ext ex3
  have hS3 : SqL K (upd H2 p (.lst ws)) a (ns.map V.int) := Same.seq ex3 hS1
  have np : ∀ x o, H1 x = some o → x ≠ p := fun x o hx e => by
    have h2 := ex2 _ _ hx
    rw [e, hp] at h2
    cases h2
  have nA : ∀ o, upd H2 p (.lst ws) a = some o → (∀ ps, o ≠ .tbl ps) → ¬ (TabC.tb = some a) := fun o h1 h2 h3 => by
    obtain ⟨ps, h4, _⟩ := hT3 a h3
    rw [h1] at h4
    cases h4
    exact h2 ps rfl
  have hbox : BoxAt ⟨some p⟩ (upd H2 p (.lst ws)) 0 := ⟨fun b hb2 => by
    cases hb2
    exact ⟨ws, upd_same, hb⟩, hT3⟩
  refine ⟨fun x => upd H2 p (.lst ws) x = none, ⟨some p⟩, fun _ => none, [.raw (.ref a), .off, .val .cell, .off, .off], { nx := fun ε => ε.length = 5 ∧ ε[0]? = some (.raw (.ref a)), rt := fun _ => False }, 0, ?_, ?_, by unfold CAP; decide, ?_, fun F' H' σ' ε' g r h => ?_, fun _ _ _ _ _ _ h => h.elim, fun _ _ _ _ _ _ h => h.elim, fun _ _ _ _ _ _ h => h.elim⟩
  · refine ⟨(fun x o h => nomatch h), by simp [hl], fun j d h => ?_, fun j d h => ?_, fun j k d e q h => ?_, fun b hb2 => ?_, fun x h => h, fun j v h => ?_⟩
    · match j, h with
      | 2, h => cases h; exact ⟨.ref p, List.getElem?_set_self (by simp [hl]), .cell rfl⟩
      | 0, h => cases h
      | 1, h => cases h
      | 3, h => cases h
      | 4, h => cases h
      | j + 5, h => simp at h
    · match j, h with
      | 2, h => cases h
      | 0, h => cases h
      | 1, h => cases h
      | 3, h => cases h
      | 4, h => cases h
      | j + 5, h => simp at h
    · match j, h with
      | 2, h => cases h
      | 0, h => cases h
      | 1, h => cases h
      | 3, h => cases h
      | 4, h => cases h
      | j + 5, h => simp at h
    · rcases hb2 with hb2 | hb2
      · cases hb2
        exact ⟨rfl, (fun e => by rw [upd_same] at e; cases e), _, upd_same⟩
      · obtain ⟨ps, h4, _⟩ := hT3 b hb2
        exact ⟨rfl, (fun e => by rw [h4] at e; cases e), _, h4⟩
    · match j, h with
      | 0, h => cases h; rw [List.getElem?_set_ne (by decide), List.getElem?_set_ne (by decide)]; exact h0
      | 2, h => cases h
      | 1, h => cases h
      | 3, h => cases h
      | 4, h => cases h
      | j + 5, h => simp at h
  · exact hbox
  · simp
    refine take_in 2 rfl (by decide) (by decide) fun c hc => ⟨by simp, ?_⟩
    refine for_r1 (n := 2) (fun P h => h) (by omega) (by omega) (fun i ε => ∃ (b : Bool) (x4 : Sl), ε = [.raw (.ref a), .off, .val .cell, .val (.bl b), x4]) ⟨_, _, rfl⟩ (fun i ε hi ⟨b, x4, hε⟩ => ?_) (fun ε ⟨b, x4, hε⟩ => ?_)
    · subst hε
      simp
      refine ⟨b, rfl, rfl, ?_⟩
      cases b with
      | false => exact .inl ⟨rfl, true, rfl, rfl⟩
      | true => exact .inr ⟨rfl, false, rfl, rfl⟩
    · subst hε
      exact ⟨rfl, rfl⟩
  · refine ⟨by rw [← r.len]; exact h.1, r.raw 0 _ h.2, ?_, (g.box 0 hbox).2⟩
    have kk : ∀ o, H1 a = some o → (∀ ps, o ≠ .tbl ps) → H' a = some o := fun o h1 h2 => g.keep a o (ex3 _ _ h1) (fun z => z.elim (fun e => np a o h1 (Option.some.inj e).symm) (nA o (ex3 _ _ h1) h2)) (fun e : upd H2 p (.lst ws) a = none => by rw [ex3 _ _ h1] at e; cases e)
    rcases hS1 with (h1 | ⟨ob, h1⟩) | h1
    · exact .inl (.inl (kk _ h1 (fun ps z => by cases z)))
    · exact .inl (.inr ⟨ob, kk _ h1 (fun ps z => by cases z)⟩)
    · exact .inr h1
end
end K92
set_option maxRecDepth 100000
set_option maxHeartbeats 0
namespace K92
open PySem PySem.Spec PyProof.Rows L2 RZ C8 DL LamX
/-! the head: facts by names, the run of the top -/
def insB (K : PySem.W.Frag) (C : Addr) : Bool := He.eqO (PySem.W.findIn K (.ref C) "__class__") (some (some (.builtin "object.__class__"))) && (He.eqO (PySem.W.specialIn K (.builtin "object.__class__") "__get__") (some (some (.builtin "getset_descriptor.__get__"))) &&
  (decide (PySem.W.takesIn K (.builtin "object.__class__") = some true) && (decide (PySem.W.mroIn K C (.type "object") = some true) && decide (PySem.W.kitOne K (.ref C) (.ref C) = some true))))
theorem insB_ok {K : PySem.W.Frag} {C : Addr} (cl : Cls K C) (h : insB K C = true) : InsC K C := by
  obtain ⟨h1, h⟩ := He.ba h
  obtain ⟨h2, h⟩ := He.ba h
  obtain ⟨h3, h⟩ := He.ba h
  obtain ⟨h4, h5⟩ := He.ba h
  exact ⟨cl, He.eqO_ok h1, He.eqO_ok h2, of_decide_eq_true h3, of_decide_eq_true h4, of_decide_eq_true h5⟩
def d_0 : He.DefD := ⟨("is_whole", none), "is_whole", "is_whole", defArgs s_is_whole, defBody s_is_whole, defScope s_is_whole, [], []⟩
def d_1 : He.DefD := ⟨("is_below", none), "is_below", "is_below", defArgs s_is_below, defBody s_is_below, defScope s_is_below, [], []⟩
def d_2 : He.DefD := ⟨("is_ranking", none), "is_ranking", "is_ranking", defArgs s_is_ranking, defBody s_is_ranking, defScope s_is_ranking, [], []⟩
def d_3 : He.DefD := ⟨("are_rankings", none), "are_rankings", "are_rankings", defArgs s_are_rankings, defBody s_are_rankings, defScope s_are_rankings, [], []⟩
def d_4 : He.DefD := ⟨("check_rankings", none), "check_rankings", "check_rankings", defArgs s_check_rankings, defBody s_check_rankings, defScope s_check_rankings, [], []⟩
def d_5 : He.DefD := ⟨("check_sides", none), "check_sides", "check_sides", defArgs s_check_sides, defBody s_check_sides, defScope s_check_sides, [], []⟩
def d_6 : He.DefD := ⟨("is_above", none), "is_above", "is_above", defArgs s_is_above, defBody s_is_above, defScope s_is_above, [], []⟩
def d_7 : He.DefD := ⟨("holders_of", none), "holders_of", "holders_of", defArgs s_holders_of, defBody s_holders_of, defScope s_holders_of, [], []⟩
def d_8 : He.DefD := ⟨("offered", none), "offered", "offered", defArgs s_offered, defBody s_offered, defScope s_offered, [], []⟩
def d_9 : He.DefD := ⟨("lefts_best", none), "lefts_best", "lefts_best", defArgs s_lefts_best, defBody s_lefts_best, defScope s_lefts_best, [], []⟩
def d_10 : He.DefD := ⟨("rights_best", none), "rights_best", "rights_best", defArgs s_rights_best, defBody s_rights_best, defScope s_rights_best, [], []⟩
def d_11 : He.DefD := ⟨("best_for_lefts", none), "best_for_lefts", "best_for_lefts", defArgs s_best_for_lefts, defBody s_best_for_lefts, defScope s_best_for_lefts, [], []⟩
def d_12 : He.DefD := ⟨("best_for_rights", none), "best_for_rights", "best_for_rights", defArgs s_best_for_rights, defBody s_best_for_rights, defScope s_best_for_rights, [], []⟩
def d_13 : He.DefD := ⟨("are_wishes", none), "are_wishes", "are_wishes", defArgs s_are_wishes, defBody s_are_wishes, defScope s_are_wishes, [], []⟩
def d_14 : He.DefD := ⟨("up_to", none), "up_to", "up_to", defArgs s_up_to, defBody s_up_to, defScope s_up_to, [], []⟩
def d_15 : He.DefD := ⟨("way_to", none), "way_to", "way_to", defArgs s_way_to, defBody s_way_to, defScope s_way_to, [], []⟩
def d_16 : He.DefD := ⟨("cycles_of", none), "cycles_of", "cycles_of", defArgs s_cycles_of, defBody s_cycles_of, defScope s_cycles_of, [], []⟩
def d_17 : He.DefD := ⟨("are_owned", none), "are_owned", "are_owned", defArgs s_are_owned, defBody s_are_owned, defScope s_are_owned, [], []⟩
def d_18 : He.DefD := ⟨("check_homes", none), "check_homes", "check_homes", defArgs s_check_homes, defBody s_check_homes, defScope s_check_homes, [], []⟩
def d_19 : He.DefD := ⟨("keeper_of", none), "keeper_of", "keeper_of", defArgs s_keeper_of, defBody s_keeper_of, defScope s_keeper_of, [], []⟩
def d_20 : He.DefD := ⟨("turn_of", none), "turn_of", "turn_of", defArgs s_turn_of, defBody s_turn_of, defScope s_turn_of, [], []⟩
def d_21 : He.DefD := ⟨("turns_of", none), "turns_of", "turns_of", defArgs s_turns_of, defBody s_turns_of, defScope s_turns_of, [], []⟩
def d_22 : He.DefD := ⟨("housed", none), "housed", "housed", defArgs s_housed, defBody s_housed, defScope s_housed, [], []⟩
def d_23 : He.DefD := ⟨("turns", none), "turns", "turns", defArgs s_turns, defBody s_turns, defScope s_turns, [], []⟩
def d_24 : He.DefD := ⟨("is_outcome", none), "is_outcome", "is_outcome", defArgs s_is_outcome, defBody s_is_outcome, defScope s_is_outcome, [], []⟩
def d_25 : He.DefD := ⟨("check_outcome", none), "check_outcome", "check_outcome", defArgs s_check_outcome, defBody s_check_outcome, defScope s_check_outcome, [], []⟩
def d_26 : He.DefD := ⟨("better_houses", none), "better_houses", "better_houses", defArgs s_better_houses, defBody s_better_houses, defScope s_better_houses, [], []⟩
def d_27 : He.DefD := ⟨("improving", none), "improving", "improving", defArgs s_improving, defBody s_improving, defScope s_improving, [], []⟩
def d_28 : He.DefD := ⟨("is_improving", none), "is_improving", "is_improving", defArgs s_is_improving, defBody s_is_improving, defScope s_is_improving, [], []⟩
def d_29 : He.DefD := ⟨("check_right", none), "check_right", "check_right", defArgs s_check_right, defBody s_check_right, defScope s_check_right, [], []⟩
def d_30 : He.DefD := ⟨("exchanged", none), "exchanged", "exchanged", defArgs s_exchanged, defBody s_exchanged, defScope s_exchanged, [], []⟩
def d_31 : He.DefD := ⟨("check_both", none), "check_both", "check_both", defArgs s_check_both, defBody s_check_both, defScope s_check_both, [], []⟩
def d_32 : He.DefD := ⟨("lie_for", none), "lie_for", "lie_for", defArgs s_lie_for, defBody s_lie_for, defScope s_lie_for, [], []⟩
def d_33 : He.DefD := ⟨("is_lie_for", none), "is_lie_for", "is_lie_for", defArgs s_is_lie_for, defBody s_is_lie_for, defScope s_is_lie_for, [], []⟩
def d_34 : He.DefD := ⟨("_law_cell", none), "_law_cell", "_law_cell", defArgs s__law_cell, defBody s__law_cell, defScope s__law_cell, [], []⟩
def d_35 : He.DefD := ⟨("_law_box", none), "_law_box", "_law_box", defArgs s__law_box, defBody s__law_box, defScope s__law_box, [], []⟩
def d_36 : He.DefD := ⟨("_law_take", none), "_law_take", "_law_take", defArgs s__law_take, defBody s__law_take, defScope s__law_take, [], []⟩
def d_37 : He.DefD := ⟨("_law_row", none), "_law_row", "_law_row", defArgs s__law_row, defBody s__law_row, defScope s__law_row, [], []⟩
def d_38 : He.DefD := ⟨("_law_same", none), "_law_same", "_law_same", defArgs s__law_same, defBody s__law_same, defScope s__law_same, [], []⟩
def d_39 : He.DefD := ⟨("_law_mixed", none), "_law_mixed", "_law_mixed", defArgs s__law_mixed, defBody s__law_mixed, defScope s__law_mixed, [], []⟩
def d_40 : He.DefD := ⟨("_law_rankings", none), "_law_rankings", "_law_rankings", defArgs s__law_rankings, defBody s__law_rankings, defScope s__law_rankings, [], []⟩
def d_41 : He.DefD := ⟨("_law_prefers", none), "_law_prefers", "_law_prefers", defArgs s__law_prefers, defBody s__law_prefers, defScope s__law_prefers, [], []⟩
def d_42 : He.DefD := ⟨("_law_blocks", none), "_law_blocks", "_law_blocks", defArgs s__law_blocks, defBody s__law_blocks, defScope s__law_blocks, [], []⟩
def d_43 : He.DefD := ⟨("_law_all_stable", none), "_law_all_stable", "_law_all_stable", defArgs s__law_all_stable, defBody s__law_all_stable, defScope s__law_all_stable, [], []⟩
def d_44 : He.DefD := ⟨("_law_wanted", none), "_law_wanted", "_law_wanted", defArgs s__law_wanted, defBody s__law_wanted, defScope s__law_wanted, [], []⟩
def d_45 : He.DefD := ⟨("_law_better", none), "_law_better", "_law_better", defArgs s__law_better, defBody s__law_better, defScope s__law_better, [], []⟩
def d_46 : He.DefD := ⟨("_law_all_homes", none), "_law_all_homes", "_law_all_homes", defArgs s__law_all_homes, defBody s__law_all_homes, defScope s__law_all_homes, [], []⟩
def d_47 : He.DefD := ⟨("_law_improves", none), "_law_improves", "_law_improves", defArgs s__law_improves, defBody s__law_improves, defScope s__law_improves, [], []⟩
def d_48 : He.DefD := ⟨("_law_is_chain", none), "_law_is_chain", "_law_is_chain", defArgs s__law_is_chain, defBody s__law_is_chain, defScope s__law_is_chain, [], []⟩
def d_49 : He.DefD := ⟨("_law_homes_right", none), "_law_homes_right", "_law_homes_right", defArgs s__law_homes_right, defBody s__law_homes_right, defScope s__law_homes_right, [], []⟩
def d_50 : He.DefD := ⟨("_law_all_rankings", none), "_law_all_rankings", "_law_all_rankings", defArgs s__law_all_rankings, defBody s__law_all_rankings, defScope s__law_all_rankings, [], []⟩
def d_51 : He.DefD := ⟨("_law_lies_right", none), "_law_lies_right", "_law_lies_right", defArgs s__law_lies_right, defBody s__law_lies_right, defScope s__law_lies_right, [], []⟩
def d_52 : He.DefD := ⟨("law", none), "law", "law", defArgs s_law, defBody s_law, defScope s_law, [], []⟩
def d_53 : He.DefD := ⟨("Sides", some "__init__"), "__init__", ("Sides" ++ ".__init__" : String), defArgs si_Sides, defBody si_Sides, defScope si_Sides, [], []⟩
def d_54 : He.DefD := ⟨("Homes", some "__init__"), "__init__", ("Homes" ++ ".__init__" : String), defArgs si_Homes, defBody si_Homes, defScope si_Homes, [], []⟩
def d_55 : He.DefD := ⟨("Homes", some "wanted"), "wanted", ("Homes" ++ "." ++ "wanted" : String), defArgs sm_Homes_wanted, defBody sm_Homes_wanted, defScope sm_Homes_wanted, [], []⟩
def fnL : List He.DefD := [d_0, d_1, d_2, d_3, d_4, d_5, d_6, d_7, d_8, d_9, d_10, d_11, d_12, d_13, d_14, d_15, d_16, d_17, d_18, d_19, d_20, d_21, d_22, d_23, d_24, d_25, d_26, d_27, d_28, d_29, d_30, d_31, d_32, d_33, d_34, d_35, d_36, d_37, d_38, d_39, d_40, d_41, d_42, d_43, d_44, d_45, d_46, d_47, d_48, d_49, d_50, d_51, d_52, d_53, d_54, d_55]
def faL : List He.Fa := [.glo "is_whole", .glo "is_below", .glo "is_ranking", .glo "are_rankings", .glo "check_rankings", .glo "check_sides", .glo "is_above", .glo "holders_of", .glo "offered", .glo "lefts_best", .glo "rights_best", .glo "best_for_lefts", .glo "best_for_rights", .glo "are_wishes", .glo "up_to", .glo "way_to", .glo "cycles_of", .glo "are_owned", .glo "check_homes", .glo "keeper_of", .glo "turn_of", .glo "turns_of", .glo "housed", .glo "turns", .glo "is_outcome", .glo "check_outcome", .glo "better_houses", .glo "improving", .glo "is_improving", .glo "check_right", .glo "exchanged", .glo "check_both", .glo "lie_for", .glo "is_lie_for", .glo "_law_cell", .glo "_law_box", .glo "_law_take", .glo "_law_row", .glo "_law_same", .glo "_law_mixed", .glo "_law_rankings", .glo "_law_prefers", .glo "_law_blocks", .glo "_law_all_stable", .glo "_law_wanted", .glo "_law_better", .glo "_law_all_homes", .glo "_law_improves", .glo "_law_is_chain", .glo "_law_homes_right", .glo "_law_all_rankings", .glo "_law_lies_right", .glo "law", .glo "Sides", .mkr "Sides", .cls "Sides", .noat "Sides" "lefts", .noat "Sides" "rights", .glo "Homes", .mkr "Homes", .cls "Homes", .noat "Homes" "rankings", .noat "Homes" "houses", .noat "Homes" "owned", .noat "Homes" "order", .free "len", .free "int", .free "tuple", .free "list", .free "bool", .free "str", .free "dict", .free "set", .free "range", .free "enumerate", .free "zip", .free "max", .free "min", .free "sum", .free "sorted", .free "all", .free "isinstance", .free "abs", .int "MOST_MEMBERS" 20, .int "MOST_OWNERS" 24, .meth "Homes" "wanted"]
def csL : List Str := ["Sides", "Homes"]
def exL (K : PySem.W.Frag) : Bool := csL.all fun x => insB K (He.ga K x)
def tfL : List He.Defn := [("turn_of", none)]
abbrev Rw : PySem.W.OpenRow := PySem.W.OpenLaw.row PySem.Challenge.rw_thingsclear_k92_whole_nothing_left_and_n
abbrev hkL : PySem.W.Hook := He.hookX 5 faL fnL [] tfL exL
def obL (s : PySem.W.SharedT) : He.AlX := He.obsX 5 faL fnL [] tfL exL (HandSHeadRun.getT s)
theorem obL_eq (s : PySem.W.SharedT) : obL s = hkL.obs s.abs := He.obsX_eq (HandSHeadRun.getT_eq s)
abbrev qvL : Program := PySem.W.view Rw.prog [75]
def namesL : List PySem.Str := ((Rw.prog.main.scope.names.filter (fun p => p.2 == NameKind.local)).map (·.1)).filter (fun x => !(x == ("law" : PySem.Str) || x == ("__name__" : PySem.Str)))
theorem runL (w : World) : HandSHeadRun.RunEq Rw qvL hkL obL 6000 namesL w := by
  intro os
  kernel_rfl
abbrev tcK (K : PySem.W.Frag) : TabC := ⟨some (He.cT K ("turn_of", none)).2, (("turn_of" : Str) ++ ".<locals>.") ++ "<lambda>"⟩
theorem insL {w : World} {h : Heap} {K : PySem.W.Frag} (c : He.SaysX faL fnL [] tfL exL w h K) (i : Nat) {x : Str} (e : csL[i]? = some x) (cl : Cls K (He.ga K x)) : InsC K (He.ga K x) := insB_ok cl (List.all_eq_true.mp c.more x (List.mem_of_getElem? e))
theorem factsL {w : World} {K : PySem.W.Frag} {h : Heap} {mg : Str → Option Value} (X : K.In h) (G : h.Ns mainGlobals mg) (c : He.SaysX faL fnL [] tfL exL w h K) :
    ∃ fdl : FuncData, FnP K "law" s_law (He.fAd K ("law", none)) fdl ∧ mg "law" = some (.ref (He.fAd K ("law", none))) ∧ ∀ base : Heap, TabB base mg (He.cT K ("turn_of", none)).1 (He.cT K ("turn_of", none)).2 → ∃ g : @Fx (tcK K) K mg base, @Fx.f_law (tcK K) K mg base g = He.fAd K ("law", none) ∧ @Fx.fd_law (tcK K) K mg base g = fdl := by
  obtain ⟨fd_is_whole, F_is_whole⟩ := c.t.d.def_ 0 (d := d_0) rfl
  obtain ⟨fd_is_below, F_is_below⟩ := c.t.d.def_ 1 (d := d_1) rfl
  obtain ⟨fd_is_ranking, F_is_ranking⟩ := c.t.d.def_ 2 (d := d_2) rfl
  obtain ⟨fd_are_rankings, F_are_rankings⟩ := c.t.d.def_ 3 (d := d_3) rfl
  obtain ⟨fd_check_rankings, F_check_rankings⟩ := c.t.d.def_ 4 (d := d_4) rfl
  obtain ⟨fd_check_sides, F_check_sides⟩ := c.t.d.def_ 5 (d := d_5) rfl
  obtain ⟨fd_is_above, F_is_above⟩ := c.t.d.def_ 6 (d := d_6) rfl
  obtain ⟨fd_holders_of, F_holders_of⟩ := c.t.d.def_ 7 (d := d_7) rfl
  obtain ⟨fd_offered, F_offered⟩ := c.t.d.def_ 8 (d := d_8) rfl
  obtain ⟨fd_lefts_best, F_lefts_best⟩ := c.t.d.def_ 9 (d := d_9) rfl
  obtain ⟨fd_rights_best, F_rights_best⟩ := c.t.d.def_ 10 (d := d_10) rfl
  obtain ⟨fd_best_for_lefts, F_best_for_lefts⟩ := c.t.d.def_ 11 (d := d_11) rfl
  obtain ⟨fd_best_for_rights, F_best_for_rights⟩ := c.t.d.def_ 12 (d := d_12) rfl
  obtain ⟨fd_are_wishes, F_are_wishes⟩ := c.t.d.def_ 13 (d := d_13) rfl
  obtain ⟨fd_up_to, F_up_to⟩ := c.t.d.def_ 14 (d := d_14) rfl
  obtain ⟨fd_way_to, F_way_to⟩ := c.t.d.def_ 15 (d := d_15) rfl
  obtain ⟨fd_cycles_of, F_cycles_of⟩ := c.t.d.def_ 16 (d := d_16) rfl
  obtain ⟨fd_are_owned, F_are_owned⟩ := c.t.d.def_ 17 (d := d_17) rfl
  obtain ⟨fd_check_homes, F_check_homes⟩ := c.t.d.def_ 18 (d := d_18) rfl
  obtain ⟨fd_keeper_of, F_keeper_of⟩ := c.t.d.def_ 19 (d := d_19) rfl
  obtain ⟨fd_turn_of, F_turn_of⟩ := c.t.d.def_ 20 (d := d_20) rfl
  obtain ⟨fd_turns_of, F_turns_of⟩ := c.t.d.def_ 21 (d := d_21) rfl
  obtain ⟨fd_housed, F_housed⟩ := c.t.d.def_ 22 (d := d_22) rfl
  obtain ⟨fd_turns, F_turns⟩ := c.t.d.def_ 23 (d := d_23) rfl
  obtain ⟨fd_is_outcome, F_is_outcome⟩ := c.t.d.def_ 24 (d := d_24) rfl
  obtain ⟨fd_check_outcome, F_check_outcome⟩ := c.t.d.def_ 25 (d := d_25) rfl
  obtain ⟨fd_better_houses, F_better_houses⟩ := c.t.d.def_ 26 (d := d_26) rfl
  obtain ⟨fd_improving, F_improving⟩ := c.t.d.def_ 27 (d := d_27) rfl
  obtain ⟨fd_is_improving, F_is_improving⟩ := c.t.d.def_ 28 (d := d_28) rfl
  obtain ⟨fd_check_right, F_check_right⟩ := c.t.d.def_ 29 (d := d_29) rfl
  obtain ⟨fd_exchanged, F_exchanged⟩ := c.t.d.def_ 30 (d := d_30) rfl
  obtain ⟨fd_check_both, F_check_both⟩ := c.t.d.def_ 31 (d := d_31) rfl
  obtain ⟨fd_lie_for, F_lie_for⟩ := c.t.d.def_ 32 (d := d_32) rfl
  obtain ⟨fd_is_lie_for, F_is_lie_for⟩ := c.t.d.def_ 33 (d := d_33) rfl
  obtain ⟨fd__law_cell, F__law_cell⟩ := c.t.d.def_ 34 (d := d_34) rfl
  obtain ⟨fd__law_box, F__law_box⟩ := c.t.d.def_ 35 (d := d_35) rfl
  obtain ⟨fd__law_take, F__law_take⟩ := c.t.d.def_ 36 (d := d_36) rfl
  obtain ⟨fd__law_row, F__law_row⟩ := c.t.d.def_ 37 (d := d_37) rfl
  obtain ⟨fd__law_same, F__law_same⟩ := c.t.d.def_ 38 (d := d_38) rfl
  obtain ⟨fd__law_mixed, F__law_mixed⟩ := c.t.d.def_ 39 (d := d_39) rfl
  obtain ⟨fd__law_rankings, F__law_rankings⟩ := c.t.d.def_ 40 (d := d_40) rfl
  obtain ⟨fd__law_prefers, F__law_prefers⟩ := c.t.d.def_ 41 (d := d_41) rfl
  obtain ⟨fd__law_blocks, F__law_blocks⟩ := c.t.d.def_ 42 (d := d_42) rfl
  obtain ⟨fd__law_all_stable, F__law_all_stable⟩ := c.t.d.def_ 43 (d := d_43) rfl
  obtain ⟨fd__law_wanted, F__law_wanted⟩ := c.t.d.def_ 44 (d := d_44) rfl
  obtain ⟨fd__law_better, F__law_better⟩ := c.t.d.def_ 45 (d := d_45) rfl
  obtain ⟨fd__law_all_homes, F__law_all_homes⟩ := c.t.d.def_ 46 (d := d_46) rfl
  obtain ⟨fd__law_improves, F__law_improves⟩ := c.t.d.def_ 47 (d := d_47) rfl
  obtain ⟨fd__law_is_chain, F__law_is_chain⟩ := c.t.d.def_ 48 (d := d_48) rfl
  obtain ⟨fd__law_homes_right, F__law_homes_right⟩ := c.t.d.def_ 49 (d := d_49) rfl
  obtain ⟨fd__law_all_rankings, F__law_all_rankings⟩ := c.t.d.def_ 50 (d := d_50) rfl
  obtain ⟨fd__law_lies_right, F__law_lies_right⟩ := c.t.d.def_ 51 (d := d_51) rfl
  obtain ⟨fd_law, F_law⟩ := c.t.d.def_ 52 (d := d_52) rfl
  obtain ⟨fdi_Sides, Fi_Sides⟩ := c.t.d.def_ 53 (d := d_53) rfl
  obtain ⟨fdi_Homes, Fi_Homes⟩ := c.t.d.def_ 54 (d := d_54) rfl
  obtain ⟨fdm_Homes_wanted, Fm_Homes_wanted⟩ := c.t.d.def_ 55 (d := d_55) rfl
  obtain ⟨cc, oc, od, osl, hcode, lkc⟩ := fun_code F_turn_of
  refine ⟨fd_law, F_law, He.glo_ok X G (c.t.d.fact 52 (f := .glo "law") rfl), fun base TB => ?_⟩
  letI := tcK K
  exact ⟨{
    f_is_whole := He.fAd K ("is_whole", none)
    fd_is_whole := fd_is_whole
    F_is_whole := F_is_whole
    g_is_whole := He.glo_ok X G (c.t.d.fact 0 (f := .glo "is_whole") rfl)
    f_is_below := He.fAd K ("is_below", none)
    fd_is_below := fd_is_below
    F_is_below := F_is_below
    g_is_below := He.glo_ok X G (c.t.d.fact 1 (f := .glo "is_below") rfl)
    f_is_ranking := He.fAd K ("is_ranking", none)
    fd_is_ranking := fd_is_ranking
    F_is_ranking := F_is_ranking
    g_is_ranking := He.glo_ok X G (c.t.d.fact 2 (f := .glo "is_ranking") rfl)
    f_are_rankings := He.fAd K ("are_rankings", none)
    fd_are_rankings := fd_are_rankings
    F_are_rankings := F_are_rankings
    g_are_rankings := He.glo_ok X G (c.t.d.fact 3 (f := .glo "are_rankings") rfl)
    f_check_rankings := He.fAd K ("check_rankings", none)
    fd_check_rankings := fd_check_rankings
    F_check_rankings := F_check_rankings
    g_check_rankings := He.glo_ok X G (c.t.d.fact 4 (f := .glo "check_rankings") rfl)
    f_check_sides := He.fAd K ("check_sides", none)
    fd_check_sides := fd_check_sides
    F_check_sides := F_check_sides
    g_check_sides := He.glo_ok X G (c.t.d.fact 5 (f := .glo "check_sides") rfl)
    f_is_above := He.fAd K ("is_above", none)
    fd_is_above := fd_is_above
    F_is_above := F_is_above
    g_is_above := He.glo_ok X G (c.t.d.fact 6 (f := .glo "is_above") rfl)
    f_holders_of := He.fAd K ("holders_of", none)
    fd_holders_of := fd_holders_of
    F_holders_of := F_holders_of
    g_holders_of := He.glo_ok X G (c.t.d.fact 7 (f := .glo "holders_of") rfl)
    f_offered := He.fAd K ("offered", none)
    fd_offered := fd_offered
    F_offered := F_offered
    g_offered := He.glo_ok X G (c.t.d.fact 8 (f := .glo "offered") rfl)
    f_lefts_best := He.fAd K ("lefts_best", none)
    fd_lefts_best := fd_lefts_best
    F_lefts_best := F_lefts_best
    g_lefts_best := He.glo_ok X G (c.t.d.fact 9 (f := .glo "lefts_best") rfl)
    f_rights_best := He.fAd K ("rights_best", none)
    fd_rights_best := fd_rights_best
    F_rights_best := F_rights_best
    g_rights_best := He.glo_ok X G (c.t.d.fact 10 (f := .glo "rights_best") rfl)
    f_best_for_lefts := He.fAd K ("best_for_lefts", none)
    fd_best_for_lefts := fd_best_for_lefts
    F_best_for_lefts := F_best_for_lefts
    g_best_for_lefts := He.glo_ok X G (c.t.d.fact 11 (f := .glo "best_for_lefts") rfl)
    f_best_for_rights := He.fAd K ("best_for_rights", none)
    fd_best_for_rights := fd_best_for_rights
    F_best_for_rights := F_best_for_rights
    g_best_for_rights := He.glo_ok X G (c.t.d.fact 12 (f := .glo "best_for_rights") rfl)
    f_are_wishes := He.fAd K ("are_wishes", none)
    fd_are_wishes := fd_are_wishes
    F_are_wishes := F_are_wishes
    g_are_wishes := He.glo_ok X G (c.t.d.fact 13 (f := .glo "are_wishes") rfl)
    f_up_to := He.fAd K ("up_to", none)
    fd_up_to := fd_up_to
    F_up_to := F_up_to
    g_up_to := He.glo_ok X G (c.t.d.fact 14 (f := .glo "up_to") rfl)
    f_way_to := He.fAd K ("way_to", none)
    fd_way_to := fd_way_to
    F_way_to := F_way_to
    g_way_to := He.glo_ok X G (c.t.d.fact 15 (f := .glo "way_to") rfl)
    f_cycles_of := He.fAd K ("cycles_of", none)
    fd_cycles_of := fd_cycles_of
    F_cycles_of := F_cycles_of
    g_cycles_of := He.glo_ok X G (c.t.d.fact 16 (f := .glo "cycles_of") rfl)
    f_are_owned := He.fAd K ("are_owned", none)
    fd_are_owned := fd_are_owned
    F_are_owned := F_are_owned
    g_are_owned := He.glo_ok X G (c.t.d.fact 17 (f := .glo "are_owned") rfl)
    f_check_homes := He.fAd K ("check_homes", none)
    fd_check_homes := fd_check_homes
    F_check_homes := F_check_homes
    g_check_homes := He.glo_ok X G (c.t.d.fact 18 (f := .glo "check_homes") rfl)
    f_keeper_of := He.fAd K ("keeper_of", none)
    fd_keeper_of := fd_keeper_of
    F_keeper_of := F_keeper_of
    g_keeper_of := He.glo_ok X G (c.t.d.fact 19 (f := .glo "keeper_of") rfl)
    f_turn_of := He.fAd K ("turn_of", none)
    fd_turn_of := fd_turn_of
    F_turn_of := F_turn_of
    g_turn_of := He.glo_ok X G (c.t.d.fact 20 (f := .glo "turn_of") rfl)
    f_turns_of := He.fAd K ("turns_of", none)
    fd_turns_of := fd_turns_of
    F_turns_of := F_turns_of
    g_turns_of := He.glo_ok X G (c.t.d.fact 21 (f := .glo "turns_of") rfl)
    f_housed := He.fAd K ("housed", none)
    fd_housed := fd_housed
    F_housed := F_housed
    g_housed := He.glo_ok X G (c.t.d.fact 22 (f := .glo "housed") rfl)
    f_turns := He.fAd K ("turns", none)
    fd_turns := fd_turns
    F_turns := F_turns
    g_turns := He.glo_ok X G (c.t.d.fact 23 (f := .glo "turns") rfl)
    f_is_outcome := He.fAd K ("is_outcome", none)
    fd_is_outcome := fd_is_outcome
    F_is_outcome := F_is_outcome
    g_is_outcome := He.glo_ok X G (c.t.d.fact 24 (f := .glo "is_outcome") rfl)
    f_check_outcome := He.fAd K ("check_outcome", none)
    fd_check_outcome := fd_check_outcome
    F_check_outcome := F_check_outcome
    g_check_outcome := He.glo_ok X G (c.t.d.fact 25 (f := .glo "check_outcome") rfl)
    f_better_houses := He.fAd K ("better_houses", none)
    fd_better_houses := fd_better_houses
    F_better_houses := F_better_houses
    g_better_houses := He.glo_ok X G (c.t.d.fact 26 (f := .glo "better_houses") rfl)
    f_improving := He.fAd K ("improving", none)
    fd_improving := fd_improving
    F_improving := F_improving
    g_improving := He.glo_ok X G (c.t.d.fact 27 (f := .glo "improving") rfl)
    f_is_improving := He.fAd K ("is_improving", none)
    fd_is_improving := fd_is_improving
    F_is_improving := F_is_improving
    g_is_improving := He.glo_ok X G (c.t.d.fact 28 (f := .glo "is_improving") rfl)
    f_check_right := He.fAd K ("check_right", none)
    fd_check_right := fd_check_right
    F_check_right := F_check_right
    g_check_right := He.glo_ok X G (c.t.d.fact 29 (f := .glo "check_right") rfl)
    f_exchanged := He.fAd K ("exchanged", none)
    fd_exchanged := fd_exchanged
    F_exchanged := F_exchanged
    g_exchanged := He.glo_ok X G (c.t.d.fact 30 (f := .glo "exchanged") rfl)
    f_check_both := He.fAd K ("check_both", none)
    fd_check_both := fd_check_both
    F_check_both := F_check_both
    g_check_both := He.glo_ok X G (c.t.d.fact 31 (f := .glo "check_both") rfl)
    f_lie_for := He.fAd K ("lie_for", none)
    fd_lie_for := fd_lie_for
    F_lie_for := F_lie_for
    g_lie_for := He.glo_ok X G (c.t.d.fact 32 (f := .glo "lie_for") rfl)
    f_is_lie_for := He.fAd K ("is_lie_for", none)
    fd_is_lie_for := fd_is_lie_for
    F_is_lie_for := F_is_lie_for
    g_is_lie_for := He.glo_ok X G (c.t.d.fact 33 (f := .glo "is_lie_for") rfl)
    f__law_cell := He.fAd K ("_law_cell", none)
    fd__law_cell := fd__law_cell
    F__law_cell := F__law_cell
    g__law_cell := He.glo_ok X G (c.t.d.fact 34 (f := .glo "_law_cell") rfl)
    f__law_box := He.fAd K ("_law_box", none)
    fd__law_box := fd__law_box
    F__law_box := F__law_box
    g__law_box := He.glo_ok X G (c.t.d.fact 35 (f := .glo "_law_box") rfl)
    f__law_take := He.fAd K ("_law_take", none)
    fd__law_take := fd__law_take
    F__law_take := F__law_take
    g__law_take := He.glo_ok X G (c.t.d.fact 36 (f := .glo "_law_take") rfl)
    f__law_row := He.fAd K ("_law_row", none)
    fd__law_row := fd__law_row
    F__law_row := F__law_row
    g__law_row := He.glo_ok X G (c.t.d.fact 37 (f := .glo "_law_row") rfl)
    f__law_same := He.fAd K ("_law_same", none)
    fd__law_same := fd__law_same
    F__law_same := F__law_same
    g__law_same := He.glo_ok X G (c.t.d.fact 38 (f := .glo "_law_same") rfl)
    f__law_mixed := He.fAd K ("_law_mixed", none)
    fd__law_mixed := fd__law_mixed
    F__law_mixed := F__law_mixed
    g__law_mixed := He.glo_ok X G (c.t.d.fact 39 (f := .glo "_law_mixed") rfl)
    f__law_rankings := He.fAd K ("_law_rankings", none)
    fd__law_rankings := fd__law_rankings
    F__law_rankings := F__law_rankings
    g__law_rankings := He.glo_ok X G (c.t.d.fact 40 (f := .glo "_law_rankings") rfl)
    f__law_prefers := He.fAd K ("_law_prefers", none)
    fd__law_prefers := fd__law_prefers
    F__law_prefers := F__law_prefers
    g__law_prefers := He.glo_ok X G (c.t.d.fact 41 (f := .glo "_law_prefers") rfl)
    f__law_blocks := He.fAd K ("_law_blocks", none)
    fd__law_blocks := fd__law_blocks
    F__law_blocks := F__law_blocks
    g__law_blocks := He.glo_ok X G (c.t.d.fact 42 (f := .glo "_law_blocks") rfl)
    f__law_all_stable := He.fAd K ("_law_all_stable", none)
    fd__law_all_stable := fd__law_all_stable
    F__law_all_stable := F__law_all_stable
    g__law_all_stable := He.glo_ok X G (c.t.d.fact 43 (f := .glo "_law_all_stable") rfl)
    f__law_wanted := He.fAd K ("_law_wanted", none)
    fd__law_wanted := fd__law_wanted
    F__law_wanted := F__law_wanted
    g__law_wanted := He.glo_ok X G (c.t.d.fact 44 (f := .glo "_law_wanted") rfl)
    f__law_better := He.fAd K ("_law_better", none)
    fd__law_better := fd__law_better
    F__law_better := F__law_better
    g__law_better := He.glo_ok X G (c.t.d.fact 45 (f := .glo "_law_better") rfl)
    f__law_all_homes := He.fAd K ("_law_all_homes", none)
    fd__law_all_homes := fd__law_all_homes
    F__law_all_homes := F__law_all_homes
    g__law_all_homes := He.glo_ok X G (c.t.d.fact 46 (f := .glo "_law_all_homes") rfl)
    f__law_improves := He.fAd K ("_law_improves", none)
    fd__law_improves := fd__law_improves
    F__law_improves := F__law_improves
    g__law_improves := He.glo_ok X G (c.t.d.fact 47 (f := .glo "_law_improves") rfl)
    f__law_is_chain := He.fAd K ("_law_is_chain", none)
    fd__law_is_chain := fd__law_is_chain
    F__law_is_chain := F__law_is_chain
    g__law_is_chain := He.glo_ok X G (c.t.d.fact 48 (f := .glo "_law_is_chain") rfl)
    f__law_homes_right := He.fAd K ("_law_homes_right", none)
    fd__law_homes_right := fd__law_homes_right
    F__law_homes_right := F__law_homes_right
    g__law_homes_right := He.glo_ok X G (c.t.d.fact 49 (f := .glo "_law_homes_right") rfl)
    f__law_all_rankings := He.fAd K ("_law_all_rankings", none)
    fd__law_all_rankings := fd__law_all_rankings
    F__law_all_rankings := F__law_all_rankings
    g__law_all_rankings := He.glo_ok X G (c.t.d.fact 50 (f := .glo "_law_all_rankings") rfl)
    f__law_lies_right := He.fAd K ("_law_lies_right", none)
    fd__law_lies_right := fd__law_lies_right
    F__law_lies_right := F__law_lies_right
    g__law_lies_right := He.glo_ok X G (c.t.d.fact 51 (f := .glo "_law_lies_right") rfl)
    f_law := He.fAd K ("law", none)
    fd_law := fd_law
    F_law := F_law
    g_law := He.glo_ok X G (c.t.d.fact 52 (f := .glo "law") rfl)
    C_Sides := He.ga K "Sides"
    fi_Sides := He.ma K (He.ga K "Sides") "__init__"
    fdi_Sides := fdi_Sides
    Fi_Sides := Fi_Sides
    g_Sides := He.glo_ok X G (c.t.d.fact 53 (f := .glo "Sides") rfl)
    M_Sides := He.mkr_ok (c.t.d.fact 54 (f := .mkr "Sides") rfl)
    cl_Sides := He.cls_ok (c.t.d.fact 55 (f := .cls "Sides") rfl)
    ins_Sides := insL c 0 (x := "Sides") rfl (He.cls_ok (c.t.d.fact 55 (f := .cls "Sides") rfl))
    na_Sides_lefts := He.noat_ok (c.t.d.fact 56 (f := .noat "Sides" "lefts") rfl)
    na_Sides_rights := He.noat_ok (c.t.d.fact 57 (f := .noat "Sides" "rights") rfl)
    C_Homes := He.ga K "Homes"
    fi_Homes := He.ma K (He.ga K "Homes") "__init__"
    fdi_Homes := fdi_Homes
    Fi_Homes := Fi_Homes
    g_Homes := He.glo_ok X G (c.t.d.fact 58 (f := .glo "Homes") rfl)
    M_Homes := He.mkr_ok (c.t.d.fact 59 (f := .mkr "Homes") rfl)
    cl_Homes := He.cls_ok (c.t.d.fact 60 (f := .cls "Homes") rfl)
    ins_Homes := insL c 1 (x := "Homes") rfl (He.cls_ok (c.t.d.fact 60 (f := .cls "Homes") rfl))
    na_Homes_rankings := He.noat_ok (c.t.d.fact 61 (f := .noat "Homes" "rankings") rfl)
    na_Homes_houses := He.noat_ok (c.t.d.fact 62 (f := .noat "Homes" "houses") rfl)
    na_Homes_owned := He.noat_ok (c.t.d.fact 63 (f := .noat "Homes" "owned") rfl)
    na_Homes_order := He.noat_ok (c.t.d.fact 64 (f := .noat "Homes" "order") rfl)
    b_len := He.free_ok X G (c.t.d.fact 65 (f := .free "len") rfl)
    b_int := He.free_ok X G (c.t.d.fact 66 (f := .free "int") rfl)
    b_tuple := He.free_ok X G (c.t.d.fact 67 (f := .free "tuple") rfl)
    b_list := He.free_ok X G (c.t.d.fact 68 (f := .free "list") rfl)
    b_bool := He.free_ok X G (c.t.d.fact 69 (f := .free "bool") rfl)
    b_str := He.free_ok X G (c.t.d.fact 70 (f := .free "str") rfl)
    b_dict := He.free_ok X G (c.t.d.fact 71 (f := .free "dict") rfl)
    b_set := He.free_ok X G (c.t.d.fact 72 (f := .free "set") rfl)
    b_range := He.free_ok X G (c.t.d.fact 73 (f := .free "range") rfl)
    b_enumerate := He.free_ok X G (c.t.d.fact 74 (f := .free "enumerate") rfl)
    b_zip := He.free_ok X G (c.t.d.fact 75 (f := .free "zip") rfl)
    b_max := He.free_ok X G (c.t.d.fact 76 (f := .free "max") rfl)
    b_min := He.free_ok X G (c.t.d.fact 77 (f := .free "min") rfl)
    b_sum := He.free_ok X G (c.t.d.fact 78 (f := .free "sum") rfl)
    b_sorted := He.free_ok X G (c.t.d.fact 79 (f := .free "sorted") rfl)
    b_all := He.free_ok X G (c.t.d.fact 80 (f := .free "all") rfl)
    b_isinstance := He.free_ok X G (c.t.d.fact 81 (f := .free "isinstance") rfl)
    b_abs := He.free_ok X G (c.t.d.fact 82 (f := .free "abs") rfl)
    i_MOST_MEMBERS := He.int_ok X G (c.t.d.fact 83 (f := .int "MOST_MEMBERS" 20) rfl)
    i_MOST_OWNERS := He.int_ok X G (c.t.d.fact 84 (f := .int "MOST_OWNERS" 24) rfl)
    fm_Homes_wanted := He.ma K (He.ga K "Homes") "wanted"
    fdm_Homes_wanted := fdm_Homes_wanted
    Fm_Homes_wanted := Fm_Homes_wanted
    me_Homes_wanted := He.meth_ok (c.t.d.fact 85 (f := .meth "Homes" "wanted") rfl)
    cT := (He.cT K ("turn_of", none)).1
    pT := (He.cT K ("turn_of", none)).2
    tc := hcode.trans (congrArg Value.ref (He.codeOf_eq lkc hcode).symm)
    TB := TB
    tb := rfl
    tq := rfl }, rfl, rfl⟩
end K92
set_option maxRecDepth 100000
set_option maxHeartbeats 0
open PySem PySem.W PySem.Calls PyProof.Rows
theorem PySem.Challenge.cw_thingsclear_k92_whole_nothing_left_and_n_holds : PySem.Challenge.rw_thingsclear_k92_whole_nothing_left_and_n.Holds := by
  w_on; o_law
  refine HandSHeadRun.head_any (r := OpenLaw.row PySem.Challenge.rw_thingsclear_k92_whole_nothing_left_and_n) (q := view (OpenLaw.row PySem.Challenge.rw_thingsclear_k92_whole_nothing_left_and_n).prog [75]) (H := K92.hkL) (ob := K92.obL) (M := 6000) (loose := K92.namesL) (d := HandSHeadRun.topDef (OpenLaw.row PySem.Challenge.rw_thingsclear_k92_whole_nothing_left_and_n).prog 75) (kwd := []) K92.obL_eq
    (by kernel_rfl) (fun s => by kernel_rfl) K92.runL (by kernel_rfl) (by kernel_rfl) (by kernel_rfl) (by rfl) (by first | assumption | decide +kernel) (by decide +kernel) ⟨rfl, rfl, rfl, rfl, rfl, by decide +kernel⟩ ?hw ?hc
  case hw => w_witness2
  case hc =>
    refine LamX.walk_ofTsE (l := PySem.Challenge.rw_thingsclear_k92_whole_nothing_left_and_n) (n := 63) (k := 10) (x := "script") (CX := fun _ => L2.CX0) rfl (by decide) (by kernel_rfl) ⟨rfl, by decide, by decide⟩ ?F (fun _ _ _ _ _ z => z)
    intro w mg fa h Y G hmg0
    obtain ⟨K, KX, c⟩ := Y
    have hmg : mg ("law" : PySem.Str) = some (.ref fa) := by
      have e : (HandSHeadRun.topDef (OpenLaw.row PySem.Challenge.rw_thingsclear_k92_whole_nothing_left_and_n).prog 75).name = ("law" : PySem.Str) := by kernel_rfl
      rw [← e]
      exact hmg0
    obtain ⟨fdl, FL, hg, mk⟩ := K92.factsL KX G c
    have e := hmg.symm.trans hg
    cases e
    have b := L2.FunD.bindsA (ps := ["script"]) FL fun _ _ _ _ _ _ us hl => match us, hl with | [_], _ => rfl
    have mem : (("turn_of", none) : He.Defn) ∈ K92.tfL := List.mem_singleton.mpr rfl
    refine ⟨K, KX, fdl, [He.cT K ("turn_of", none)], @K92.spLaw (K92.tcK K) K, fun p hp => ?_, fun p hp => ?_, fun p hp => ?_, fun s v => b s [v] rfl, fun H a ns hl _ hT hS => ⟨a, ns, rfl, hS, hl, fun P hP => ?_, fun _ => rfl⟩, fun base _ _ TB => ?_⟩
    · rw [List.mem_singleton.mp hp]
      exact c.empty _ mem
    · rw [List.mem_singleton.mp hp]
      exact c.out _ mem
    · rw [List.mem_singleton.mp hp]
      exact PySem.W.codeHd_of_K KX (c.hd _ mem)
    · have e := Option.some.inj hP
      rw [← e]
      exact LamX.TabS.nil (hT _ (List.mem_singleton.mpr rfl))
    · obtain ⟨g, e1, e2⟩ := mk base (TB _ (List.mem_singleton.mpr rfl))
      have z := @K92.ok_law (K92.tcK K) (PySem.Challenge.rw_thingsclear_k92_whole_nothing_left_and_n).prog w K mg base g
      rw [e1, e2] at z
      exact z
