import PyProof.Rows.All
import Wide.All
import OpenK.AllK
import Wide.FinOn
import HandS.ForMost
import HandS.TupMul
import KE.DataCmp
import HandS.TupLe
import PyProof.P3Eq
import KE.LtSeq
import HandS.SortKw
import KE.SortKeyHeap
import KE.SortData
import HandS.Exc
import HandS.ExcIs
import HandS.ExcField
import HandS.Lambda
import KE.KExcIs
import HandS.Deep
import HandS.IsInst
import HandS.TupAny
import HandS.RaiseMore
import HandS.Zip
import HandS.Iter
import KE.GoesMore
import HandS.Conv
import HandS.Style
import HandS.Replace
import HandS.More
import HandS.NoneIn
import HandS.WrittenGet
import PyProof.DictRoads
import PyProof.ReprLen
import PySem.Challenge.RW_waysfold_k20_what_is_a_pattern
set_option Elab.async false
set_option linter.all false
set_option autoImplicit false
set_option maxRecDepth 100000
set_option maxHeartbeats 0
/-! Mi0: rules that the layer lacks. -/
namespace Mi
open PySem PySem.Spec PyProof.Rows L2
def repS0 (a : Str) (n : Nat) : Str := ⟨(List.replicate n a.cps).foldl (· ++ ·) #[]⟩
theorem repS0_eq (a : Str) (n : Nat) : repS0 a n = ⟨(List.replicate n a.cps.toList).flatten.toArray⟩ := by
  have f0 : ∀ (m : Nat) (acc : Array Nat), List.foldl (fun x1 x2 => x1 ++ x2) acc (List.replicate m a.cps) = acc ++ (List.replicate m a.cps.toList).flatten.toArray := by
    intro m
    induction m with
    | zero => intro acc; simp
    | succ m ih =>
      intro acc
      rw [List.replicate_succ, List.foldl_cons, ih, List.replicate_succ, List.flatten_cons]
      apply Array.ext'
      simp
  unfold repS0
  rw [f0 n #[]]
  simp
theorem repS0_len (a : Str) (n : Nat) : (repS0 a n).length = a.length * n := by
  rw [repS0_eq]
  show (List.replicate n a.cps.toList).flatten.toArray.size = _
  rw [List.size_toArray]
  induction n with
  | zero => simp
  | succ n ih =>
    rw [List.replicate_succ, List.flatten_cons, List.length_append, ih, Nat.mul_succ]
    simp [Str.length]
    omega
@[irreducible] def repS (a : Str) (n : Nat) : Str := repS0 a n
theorem repS_def (a : Str) (n : Nat) : repS a n = repS0 a n := by unfold repS; rfl
def rMulS : R2 := fun x y H Q => ∃ a k, x = .str a ∧ y = .int k ∧ -(2 ^ 63) ≤ k ∧ k < 2 ^ 63 ∧ a.length * k.toNat ≤ sizeLine ∧ Q (.str (repS a k.toNat)) H
theorem op_mulS {X : Cx} : OpR X (binaryOp .Mult) rMulS := by
  intro pins s σ H x y v u Q I rx ry h
  obtain ⟨a, k, rfl, rfl, h1, h2, hz, q⟩ := h
  rw [repS_def] at q
  obtain ⟨t, rfl⟩ := rx
  obtain ⟨t', rfl⟩ := ry
  refine P.mul_str (by rw [decide_eq_false (by omega), decide_eq_false (by omega)]; rfl) (fun n1 n2 => ?_) (fun n1 n2 => ?_) ?_
  · have e1 : k ≠ 1 ∧ a.length ≠ 0 := by
      simp only [Bool.or_eq_false_iff, beq_eq_false_iff_ne, ne_eq] at n2; exact n2
    intro h
    have hz2 : (a.length : Int) * k ≤ (sizeLine : Nat) := by
      have : ((a.length * k.toNat : Nat) : Int) = (a.length : Int) * k := by rw [Int.natCast_mul, Int.toNat_of_nonneg (by omega)]
      omega
    have hs : ((sizeLine : Nat) : Int) ≤ 2 ^ 63 - 1 := by decide
    have := (Int.ediv_lt_iff_lt_mul (a := 2 ^ 63 - 1) (b := (a.length : Int)) (c := k) (by omega)).mp (by omega)
    omega
  · unfold Builtin.Str.tooLong
    exact decide_eq_false (by omega)
  · by_cases h1 : k < 1
    · rw [if_pos h1]
      have e : k.toNat = 0 := by omega
      rw [e] at q
      exact ⟨by decide, .str Str.empty, H, I.tok _, ⟨_, rfl⟩, q⟩
    · rw [if_neg h1]
      by_cases h3 : (k == 1 || a.length == 0) = true
      · rw [if_pos h3]
        have e : repS0 a k.toNat = a := by
          simp only [Bool.or_eq_true, beq_iff_eq] at h3
          rcases h3 with rfl | h3
          · unfold repS0; simp
          · have ec : a.cps.toList = [] := List.eq_nil_of_length_eq_zero (by rw [Array.length_toList]; exact h3)
            rw [repS0_eq, ec]
            have : ∀ m : Nat, (List.replicate m ([] : List Nat)).flatten = [] := by
              intro m
              induction m with
              | zero => rfl
              | succ m ih => rw [List.replicate_succ, List.flatten_cons, ih]; rfl
            rw [this]
            cases a with | mk c => cases c with | mk l => simp at ec; subst ec; rfl
        rw [e] at q
        exact ⟨.str a, H, I, ⟨_, rfl⟩, q⟩
      · rw [if_neg h3]
        exact ⟨by show (repS0 a k.toNat).length ≤ _; rw [repS0_len]; exact hz, .str _, H, I.tok _, ⟨_, rfl⟩, q⟩
theorem mulT_same (l : Addr) (its : Array Value) (n : Nat) (dd : Option Addr) (sl : Array (Option Value)) (x : Int) (u : Tok)
    (c0 : (decide (x < -(2 ^ 63)) || decide (x ≥ 2 ^ 63)) = false) (c1 : (its.isEmpty || x == 1) = true) :
    Meets (Builtin.«tuple.__mul__» ⟨[.ref l, .int x u], []⟩) (fun _ R s =>
      s.heap.get? l = some { cls := .type "tuple", dict := dd, data := .seq its n, slots := sl } ∧ R (.ok (.ret (Value.ref l))) s) :=
  .of_wp fun prog w A R s h => by
    obtain ⟨hp, g, d, tk, os⟩ := s
    obtain ⟨hl, h⟩ := h
    have f1 := AutoSeq1.idx_int
    wp_walk using wpAny_loadPart' hl
    refine wpAny_ite_false (decide_eq_false (by rw [c0]; exact Bool.false_ne_true)) ?_
    wp_walk using wpAny_loadPart' hl
    exact ⟨_, rfl, h⟩
theorem mulT_none (l : Addr) (its : Array Value) (n : Nat) (dd : Option Addr) (sl : Array (Option Value)) (x : Int) (u : Tok)
    (c0 : (decide (x < -(2 ^ 63)) || decide (x ≥ 2 ^ 63)) = false) (c1 : (its.isEmpty || x == 1) = false) (c2 : (decide (x ≤ 0) || its.isEmpty) = true) :
    Meets (Builtin.«tuple.__mul__» ⟨[.ref l, .int x u], []⟩) (fun _ R s =>
      s.heap.get? l = some { cls := .type "tuple", dict := dd, data := .seq its n, slots := sl } ∧
      R (.ok (.ret (Value.ref s.heap.objs.size))) { s with heap := s.heap.push { cls := Value.type "tuple", data := Data.seq #[] }, toks := s.toks }) :=
  .of_wp fun prog w A R s h => by
    obtain ⟨hp, g, d, tk, os⟩ := s
    obtain ⟨hl, h⟩ := h
    have f1 := AutoSeq1.idx_int
    wp_walk using wpAny_loadPart' hl
    repeat (first
      | (refine wpAny_ite_false (decide_eq_false (by rw [c0]; exact Bool.false_ne_true)) ?_; wp_walk using wpAny_loadPart' hl)
      | (refine wpAny_ite_false (decide_eq_false (by rw [c1]; exact Bool.false_ne_true)) ?_; wp_walk using wpAny_loadPart' hl))
    exact ⟨_, rfl, h⟩
/-- tuple * int -/
def rRepA (K : PySem.W.Frag) : R2 := fun x y H Q => ∃ l k xs, x = .ref l ∧ y = .int k ∧ SqT K H l xs ∧ -(2 ^ 63) ≤ k ∧ k < 2 ^ 63 ∧ xs.length * k.toNat ≤ 1000000 ∧
  ((xs = [] ∨ k = 1) → Q (.ref l) H) ∧ (¬ (xs = [] ∨ k = 1) → ∀ p, H p = none → Q (.ref p) (upd H p (.tup (List.replicate k.toNat xs).flatten)))
theorem op_repA {X : Cx} : OpR X (binaryOp .Mult) (rRepA X.K) := by
  intro pins s σ H x y v u Q I rx ry h
  obtain ⟨l, k, xs, rfl, rfl, hT, h1, h2, hz, q1, q2⟩ := h
  cases rx
  obtain ⟨t, rfl⟩ := ry
  obtain ⟨its, r, ⟨⟨cls, dd, data, sl⟩, ho, hc, n, hd⟩, hs⟩ := I.tuple hT
  simp only at hc hd
  subst hc hd
  have hle : its.length = xs.length := r.length.symm
  have c0 : (decide (k < -(2 ^ 63)) || decide (k ≥ 2 ^ 63)) = false := by rw [decide_eq_false (by omega), decide_eq_false (by omega)]; rfl
  by_cases e1 : xs = [] ∨ k = 1
  · have c1 : (its.toArray.isEmpty || k == 1) = true := by
      rcases e1 with e1 | e1
      · subst e1
        have : its = [] := List.eq_nil_of_length_eq_zero (by simpa using hle)
        subst this; rfl
      · subst e1; simp
    refine wpAny_binaryOp_repeat_ref (T := "tuple") (U := "int") (by decide) ⟨_, ho, rfl⟩ (fun s' => typeIs_int s' k t) noFill_tuple_mul F.fills_int_mul F.slot_int_rmul repeat_tuple F.slot_int_index.lookup
      (call_meets F.slot_int_rmul (typeIs_int s k t) F.entry_int_rmul (F.args_int_rmul_2 _ _) (int_rmul_tuple k t l its.toArray n dd sl)
        ⟨ho, rfl, ⟨_, ho, rfl⟩, call_meets F.slot_tuple_mul ⟨_, ho, rfl⟩ F.entry_tuple_mul (F.args_tuple_mul_2 _ _) (mulT_same l its.toArray n dd sl k t c0 c1) ⟨ho, ?_⟩⟩)
    exact ⟨.ref l, H, I, rfl, q1 e1⟩
  · have hne : xs ≠ [] := fun z => e1 (.inl z)
    have hk : k ≠ 1 := fun z => e1 (.inr z)
    have hn : its ≠ [] := fun e => hne (by rw [e] at hle; exact List.eq_nil_of_length_eq_zero hle.symm)
    have hi : its.toArray.isEmpty = false := by
      cases its with
      | nil => exact absurd rfl hn
      | cons a b => rfl
    have c1 : (its.toArray.isEmpty || k == 1) = false := by rw [hi, Bool.false_or]; exact beq_eq_false_iff_ne.mpr hk
    have hrep : (List.replicate k.toNat xs).flatten.length = xs.length * k.toNat := by rw [PyProof.Rows.lm_len_rep_flat, Nat.mul_comm]
    by_cases hk0 : k ≤ 0
    · have c2 : (decide (k ≤ 0) || its.toArray.isEmpty) = true := by rw [decide_eq_true hk0]; rfl
      refine wpAny_binaryOp_repeat_ref (T := "tuple") (U := "int") (by decide) ⟨_, ho, rfl⟩ (fun s' => typeIs_int s' k t) noFill_tuple_mul F.fills_int_mul F.slot_int_rmul repeat_tuple F.slot_int_index.lookup
        (call_meets F.slot_int_rmul (typeIs_int s k t) F.entry_int_rmul (F.args_int_rmul_2 _ _) (int_rmul_tuple k t l its.toArray n dd sl)
          ⟨ho, rfl, ⟨_, ho, rfl⟩, call_meets F.slot_tuple_mul ⟨_, ho, rfl⟩ F.entry_tuple_mul (F.args_tuple_mul_2 _ _) (mulT_none l its.toArray n dd sl k t c0 c1 c2) ⟨ho, ?_⟩⟩)
      have e0 : k.toNat = 0 := by omega
      have q3 := q2 e1 _ (I.hok.fresh (Nat.le_refl _))
      rw [e0] at q3
      refine ⟨.ref s.heap.objs.size, _, I.laid (t' := s.toks) (o := .tup []) (fun b ob q => Heap.get?_push_of_some _ q) (Nat.le_refl _) ?_, rfl, q3⟩
      exact ⟨by decide, _, .nil, IsTup.new _ _⟩
    · have hm : ((its.toArray.size : Nat) : Int) * k ≤ 1000000 := by
        have : ((its.toArray.size * k.toNat : Nat) : Int) = (its.toArray.size : Nat) * k := by rw [Int.natCast_mul, Int.toNat_of_nonneg (by omega)]
        rw [← this, List.size_toArray, hle]
        omega
      have c2 : (decide (k ≤ 0) || its.toArray.isEmpty) = false := by rw [hi, Bool.or_false]; exact decide_eq_false hk0
      have c4 : Builtin.Tuple.tupleTooMany (((its.toArray.size : Nat) : Int) * k) = false := by
        unfold Builtin.Tuple.tupleTooMany
        rw [sizeLine_eq]
        exact decide_eq_false (by omega)
      have flen : (List.replicate k.toNat its).flatten.length ≤ sizeLine := by
        rw [PyProof.Rows.lm_len_rep_flat, hle, sizeLine_eq, Nat.mul_comm]; omega
      refine wpAny_binaryOp_repeat_ref (T := "tuple") (U := "int") (by decide) ⟨_, ho, rfl⟩ (fun s' => typeIs_int s' k t) noFill_tuple_mul F.fills_int_mul F.slot_int_rmul repeat_tuple F.slot_int_index.lookup
        (call_meets F.slot_int_rmul (typeIs_int s k t) F.entry_int_rmul (F.args_int_rmul_2 _ _) (int_rmul_tuple k t l its.toArray n dd sl)
          ⟨ho, rfl, ⟨_, ho, rfl⟩, call_meets F.slot_tuple_mul ⟨_, ho, rfl⟩ F.entry_tuple_mul (F.args_tuple_mul_2 _ _) (tuple_mulW l its.toArray n dd sl k t c0 c1 c2 (by omega) c4 (by rw [size_rep, List.size_toArray]; exact flen)) ⟨ho, ?_⟩⟩)
      rw [size_rep]
      refine ⟨.ref s.heap.objs.size, _, I.laid (t' := s.toks) (o := .tup (List.replicate k.toNat xs).flatten) (fun b ob q => Heap.get?_push_of_some _ q) (Nat.le_refl _) ?_, rfl, q2 e1 _ (I.hok.fresh (Nat.le_refl _))⟩
      exact ⟨by rw [hrep, sizeLine_eq]; omega, _, r.rep k.toNat, IsTup.new _ _⟩
end Mi
/-! MiOrd: tuples compared, where only the first place that differs can be compared. -/
namespace Mi
open PySem PySem.SeqAt PySem.Spec PyProof.Rows
open AutoSeq1 (wpAny_loadPart')
open MeetsSeq MeetsSeq2 MeetsSeq3 SeqRoads2

theorem tup_gtW (l b : Addr) (p q : Array Value) (n m : Nat) (dl db : Option Addr) (tl tb : Array (Option Value)) (eq rc : Nat → Bool) :
    Meets (Builtin.«tuple.__gt__» ⟨[.ref l, .ref b], []⟩) (fun A R s =>
      s.heap.get? l = some { cls := .type "tuple", dict := dl, data := .seq p n, slots := tl } ∧
      s.heap.get? b = some { cls := .type "tuple", dict := db, data := .seq q m, slots := tb } ∧
      (∀ j (j1 : j < p.size) (j2 : j < q.size), EqAt A.in1 s p[j] q[j] (eq j)) ∧
      (∀ j (j1 : j < p.size) (j2 : j < q.size), (∀ i, i < j → eq i = true) → eq j = false → RcOp .Gt A.in1 s p[j] q[j] (rc j)) ∧
      R (.ok (.ret (.bool (firstLt eq rc (decide (p.size > q.size)) (List.range (min p.size q.size)))))) s) :=
  .of_wp fun prog w A R s hyp => by
    obtain ⟨hp, gens, drawn, tk, os⟩ := s
    obtain ⟨hl, hb, he, hr, hyp⟩ := hyp
    have sub := AutoSeq1.sub_tuple_tuple
    have zl : (p.toList.zip q.toList).length = min p.size q.size := by simp
    wp_walk using wpAny_loadPart' hl, wpAny_loadPart' hb, wpAny_forIn_list _ (fun rest st s' => st.1 = none ∧ s' = ⟨hp, gens, drawn, tk, os⟩ ∧ ∃ i, rest = (p.toList.zip q.toList).drop i ∧ (∀ k, k < i → eq k = true) ∧
      R (.ok (.ret (.bool (firstLt eq rc (decide (p.size > q.size)) ((List.range (min p.size q.size)).drop i))))) ⟨hp, gens, drawn, tk, os⟩) _
    case turn =>
      rintro ⟨y, x⟩ rest st s' ⟨st0, rfl, i, hz, same, goal⟩
      have lt : i < (p.toList.zip q.toList).length := by
        refine Nat.lt_of_not_le fun no => ?_
        rw [List.drop_of_length_le no] at hz
        cases hz
      have both : i < min p.size q.size := zl ▸ lt
      have i1 : i < p.size := Nat.lt_of_lt_of_le both (Nat.min_le_left _ _)
      have i2 : i < q.size := Nat.lt_of_lt_of_le both (Nat.min_le_right _ _)
      rw [List.drop_eq_getElem_cons lt] at hz
      injection hz with pair more
      obtain rfl : y = p[i] := by simpa using congrArg Prod.fst pair
      obtain rfl : x = q[i] := by simpa using congrArg Prod.snd pair
      have split : (List.range (min p.size q.size)).drop i = i :: (List.range (min p.size q.size)).drop (i + 1) := by simp [List.drop_eq_getElem_cons, both]
      rw [split] at goal
      refine wpAny_bind (he i i1 i2 prog w _ _ ?_)
      cases ei : eq i with
      | true =>
        rw [firstLt_yes ei] at goal
        wp_walk
        refine ⟨rfl, rfl, i + 1, more, fun k hk => ?_, goal⟩
        by_cases k = i
        · subst_vars; exact ei
        · exact same k (by omega)
      | false =>
        rw [firstLt_no ei] at goal
        have hr' := hr i i1 i2 same ei prog w
        clear hr he
        generalize PySem.richCompare = cmp at hr' ⊢
        wp_walk
        refine hr' _ _ ?_
        wp_walk
        exact ⟨_, rfl, goal⟩
    case fin =>
      rintro ⟨b1, b2⟩ s' ⟨st0, rfl, i, hz, same, goal⟩
      simp only at st0
      subst st0
      have stop : min p.size q.size ≤ i := by
        refine Nat.le_of_not_lt fun no => ?_
        rw [List.drop_eq_getElem_cons (zl ▸ no)] at hz
        cases hz
      rw [List.drop_of_length_le (by simpa using stop)] at goal
      wp_walk
      exact ⟨_, rfl, by simpa [Builtin.Tuple.tupleCompareSizes, firstLt] using goal⟩
    case h =>
      exact ⟨rfl, rfl, 0, rfl, fun k hk => absurd hk (Nat.not_lt_zero k), by simpa using hyp⟩
theorem rc_tup_gt {A : Around} {s : Shared} {l b : Addr} {p q : Array Value} {eq rc : Nat → Bool} (hl : s.heap.IsTuple l p) (hb : s.heap.IsTuple b q) (hu : A.units < cLine)
    (he : ∀ j (j1 : j < p.size) (j2 : j < q.size), EqAt A.in1 s p[j] q[j] (eq j)) (hr : ∀ j (j1 : j < p.size) (j2 : j < q.size), (∀ i, i < j → eq i = true) → eq j = false → RcOp .Gt A.in1 s p[j] q[j] (rc j)) :
    RcOp .Gt A s (.ref l) (.ref b) (firstLt eq rc (decide (p.size > q.size)) (List.range (min p.size q.size))) := fun prog w E Q k => by
  obtain ⟨⟨c1, d1, t1, sl1⟩, o1, e1, n1, f1⟩ := id hl
  obtain ⟨⟨c2, d2, t2, sl2⟩, o2, e2, n2, f2⟩ := id hb
  simp only at e1 f1 e2 f2
  subst e1 f1 e2 f2
  exact richCompare_meets_room (op := .Gt) ⟨_, o1, rfl⟩ ⟨_, o2, rfl⟩ F.slot_tuple_gt F.entry_tuple_gt (F.args_tuple_gt_2 _ _)
    (tup_gtW l b p q n1 n2 d1 d2 sl1 sl2 eq rc) ⟨o1, o2, he, hr, (show _ ≠ _ ∧ _ from ⟨(fun x => nomatch x), k⟩)⟩ hu

theorem tup_ltW (l b : Addr) (p q : Array Value) (n m : Nat) (dl db : Option Addr) (tl tb : Array (Option Value)) (eq rc : Nat → Bool) :
    Meets (Builtin.«tuple.__lt__» ⟨[.ref l, .ref b], []⟩) (fun A R s =>
      s.heap.get? l = some { cls := .type "tuple", dict := dl, data := .seq p n, slots := tl } ∧
      s.heap.get? b = some { cls := .type "tuple", dict := db, data := .seq q m, slots := tb } ∧
      (∀ j (j1 : j < p.size) (j2 : j < q.size), EqAt A.in1 s p[j] q[j] (eq j)) ∧
      (∀ j (j1 : j < p.size) (j2 : j < q.size), (∀ i, i < j → eq i = true) → eq j = false → RcOp .Lt A.in1 s p[j] q[j] (rc j)) ∧
      R (.ok (.ret (.bool (firstLt eq rc (decide (p.size < q.size)) (List.range (min p.size q.size)))))) s) :=
  .of_wp fun prog w A R s hyp => by
    obtain ⟨hp, gens, drawn, tk, os⟩ := s
    obtain ⟨hl, hb, he, hr, hyp⟩ := hyp
    have sub := AutoSeq1.sub_tuple_tuple
    have zl : (p.toList.zip q.toList).length = min p.size q.size := by simp
    wp_walk using wpAny_loadPart' hl, wpAny_loadPart' hb, wpAny_forIn_list _ (fun rest st s' => st.1 = none ∧ s' = ⟨hp, gens, drawn, tk, os⟩ ∧ ∃ i, rest = (p.toList.zip q.toList).drop i ∧ (∀ k, k < i → eq k = true) ∧
      R (.ok (.ret (.bool (firstLt eq rc (decide (p.size < q.size)) ((List.range (min p.size q.size)).drop i))))) ⟨hp, gens, drawn, tk, os⟩) _
    case turn =>
      rintro ⟨y, x⟩ rest st s' ⟨st0, rfl, i, hz, same, goal⟩
      have lt : i < (p.toList.zip q.toList).length := by
        refine Nat.lt_of_not_le fun no => ?_
        rw [List.drop_of_length_le no] at hz
        cases hz
      have both : i < min p.size q.size := zl ▸ lt
      have i1 : i < p.size := Nat.lt_of_lt_of_le both (Nat.min_le_left _ _)
      have i2 : i < q.size := Nat.lt_of_lt_of_le both (Nat.min_le_right _ _)
      rw [List.drop_eq_getElem_cons lt] at hz
      injection hz with pair more
      obtain rfl : y = p[i] := by simpa using congrArg Prod.fst pair
      obtain rfl : x = q[i] := by simpa using congrArg Prod.snd pair
      have split : (List.range (min p.size q.size)).drop i = i :: (List.range (min p.size q.size)).drop (i + 1) := by simp [List.drop_eq_getElem_cons, both]
      rw [split] at goal
      refine wpAny_bind (he i i1 i2 prog w _ _ ?_)
      cases ei : eq i with
      | true =>
        rw [firstLt_yes ei] at goal
        wp_walk
        refine ⟨rfl, rfl, i + 1, more, fun k hk => ?_, goal⟩
        by_cases k = i
        · subst_vars; exact ei
        · exact same k (by omega)
      | false =>
        rw [firstLt_no ei] at goal
        have hr' := hr i i1 i2 same ei prog w
        clear hr he
        generalize PySem.richCompare = cmp at hr' ⊢
        wp_walk
        refine hr' _ _ ?_
        wp_walk
        exact ⟨_, rfl, goal⟩
    case fin =>
      rintro ⟨b1, b2⟩ s' ⟨st0, rfl, i, hz, same, goal⟩
      simp only at st0
      subst st0
      have stop : min p.size q.size ≤ i := by
        refine Nat.le_of_not_lt fun no => ?_
        rw [List.drop_eq_getElem_cons (zl ▸ no)] at hz
        cases hz
      rw [List.drop_of_length_le (by simpa using stop)] at goal
      wp_walk
      exact ⟨_, rfl, by simpa [Builtin.Tuple.tupleCompareSizes, firstLt] using goal⟩
    case h =>
      exact ⟨rfl, rfl, 0, rfl, fun k hk => absurd hk (Nat.not_lt_zero k), by simpa using hyp⟩
theorem rc_tup_lt {A : Around} {s : Shared} {l b : Addr} {p q : Array Value} {eq rc : Nat → Bool} (hl : s.heap.IsTuple l p) (hb : s.heap.IsTuple b q) (hu : A.units < cLine)
    (he : ∀ j (j1 : j < p.size) (j2 : j < q.size), EqAt A.in1 s p[j] q[j] (eq j)) (hr : ∀ j (j1 : j < p.size) (j2 : j < q.size), (∀ i, i < j → eq i = true) → eq j = false → RcOp .Lt A.in1 s p[j] q[j] (rc j)) :
    RcOp .Lt A s (.ref l) (.ref b) (firstLt eq rc (decide (p.size < q.size)) (List.range (min p.size q.size))) := fun prog w E Q k => by
  obtain ⟨⟨c1, d1, t1, sl1⟩, o1, e1, n1, f1⟩ := id hl
  obtain ⟨⟨c2, d2, t2, sl2⟩, o2, e2, n2, f2⟩ := id hb
  simp only at e1 f1 e2 f2
  subst e1 f1 e2 f2
  exact richCompare_meets_room (op := .Lt) ⟨_, o1, rfl⟩ ⟨_, o2, rfl⟩ F.slot_tuple_lt F.entry_tuple_lt (F.args_tuple_lt_2 _ _)
    (tup_ltW l b p q n1 n2 d1 d2 sl1 sl2 eq rc) ⟨o1, o2, he, hr, (show _ ≠ _ ∧ _ from ⟨(fun x => nomatch x), k⟩)⟩ hu
end Mi
/-! MiOrd2: ranks of worths compared. -/
namespace Mi
open PySem PySem.SeqAt PySem.Spec PyProof.Rows
open AutoSeq1 (wpAny_loadPart')
open MeetsSeq MeetsSeq2 MeetsSeq3 SeqRoads2


/-! ### ranks -/
/-- what a row's rank, a leaf's rank holds -/
def rkP : Nat → PyData → Bool
  | k + 1, .tuple [.int 0, .int _] => true
  | k + 1, .tuple [.int 1, .list xs] => xs.all (rkP k)
  | _, _ => false
mutual
def ltP : Nat → PyData → PyData → Bool
  | k + 1, .tuple [.int i, x], .tuple [.int j, y] => if i = j then (if PyData.eqv x y = true then false else inP k x y) else decide (i < j)
  | _, _, _ => false
def inP : Nat → PyData → PyData → Bool
  | _, .int m, .int n => decide (m < n)
  | k, .list xs, .list ys => firstLt (pairEq xs ys) (fun n => ltP k (xs.getD n .none) (ys.getD n .none)) (decide (xs.length < ys.length)) (List.range (min xs.length ys.length))
  | _, _, _ => false
end
end Mi
/-! MiOrd3: ranks compared in the layer. -/
namespace Mi
open PySem PySem.SeqAt PySem.Spec PyProof.Rows PySem.W
theorem rk_shape : ∀ {k : Nat} {d : PyData}, rkP (k + 1) d = true → ∃ i x, d = .tuple [.int i, x] ∧ ((i = 0 ∧ ∃ m, x = .int m) ∨ (i = 1 ∧ ∃ xs, x = .list xs ∧ xs.all (rkP k) = true)) := by
  intro k d h
  match d, h with
  | .tuple [.int 0, .int m], _ => exact ⟨0, _, rfl, .inl ⟨rfl, m, rfl⟩⟩
  | .tuple [.int 1, .list xs], h => exact ⟨1, _, rfl, .inr ⟨rfl, xs, rfl, by simpa [rkP] using h⟩⟩
mutual
theorem rk_depth : ∀ (k : Nat) (d : PyData), rkP k d = true → d.canLay0 = true ∧ d.depth ≤ 2 * k
  | 0, d, h => by simp [rkP] at h
  | k + 1, d, h => by
    obtain ⟨i, x, rfl, ⟨rfl, m, rfl⟩ | ⟨rfl, xs, rfl, hxs⟩⟩ := rk_shape h
    · exact ⟨by simp [PyData.canLay0, PyData.canLayAll0], by simp [PyData.depth, PyData.depthAll]; omega⟩
    · have := rk_depthAll k xs hxs
      refine ⟨by simp [PyData.canLay0, PyData.canLayAll0, this.1], ?_⟩
      simp [PyData.depth, PyData.depthAll]
      omega
theorem rk_depthAll : ∀ (k : Nat) (xs : List PyData), xs.all (rkP k) = true → PyData.canLayAll0 xs = true ∧ PyData.depthAll xs ≤ 2 * k
  | k, [], _ => ⟨rfl, Nat.zero_le _⟩
  | k, x :: xs, h => by
    have h : rkP k x = true ∧ xs.all (rkP k) = true := by simpa using h
    have h1 := rk_depth k x h.1
    have h2 := rk_depthAll k xs h.2
    refine ⟨by simp [PyData.canLayAll0, h1.1, h2.1], ?_⟩
    simp [PyData.depthAll]
    omega
end
abbrev rkIn (k : Nat) (i : Int) (x : PyData) : Prop := (i = 0 ∧ ∃ m, x = .int m) ∨ (i = 1 ∧ ∃ xs, x = .list xs ∧ xs.all (rkP k) = true)
theorem rk_lay {k : Nat} {i : Int} {x : PyData} (h : rkIn k i x) : x.canLay0 = true ∧ x.depth ≤ 2 * k + 1 := by
  rcases h with ⟨rfl, m, rfl⟩ | ⟨rfl, xs, rfl, hxs⟩
  · exact ⟨rfl, Nat.zero_le _⟩
  · have := rk_depthAll k xs hxs
    exact ⟨by simp [PyData.canLay0, this.1], by simp [PyData.depth]; omega⟩
theorem rk_at {k : Nat} {xs : List PyData} (h : xs.all (rkP k) = true) (n : Nat) (hn : n < xs.length) : rkP k (xs.getD n .none) = true := by
  have : xs.getD n .none = xs[n] := by simp [hn]
  rw [this]
  exact List.all_eq_true.mp h _ (List.getElem_mem hn)
theorem reads_at {hp : Heap} : ∀ {vs : List Value} {xs : List PyData} {as : List Addr}, ReadsAll hp vs xs as → ∀ n (h : n < vs.length), ∃ bs, Reads hp vs[n] (xs.getD n .none) bs
  | _, _, _, .cons h1 h2, 0, _ => ⟨_, by simpa using h1⟩
  | _, _, _, .cons h1 h2, n + 1, h => by
    obtain ⟨bs, q⟩ := reads_at h2 n (by simpa using h)
    exact ⟨bs, by simpa using q⟩
theorem reads_two {hp : Heap} {vs : List Value} {x y : PyData} {as : List Addr} (h : ReadsAll hp vs [x, y] as) : ∃ u v, vs = [u, v] ∧ (∃ bs, Reads hp u x bs) ∧ ∃ bs, Reads hp v y bs := by
  cases h with
  | cons h1 h2 =>
    cases h2 with
    | cons h3 h4 =>
      cases h4
      exact ⟨_, _, rfl, ⟨_, h1⟩, _, h3⟩

theorem rank_gt : ∀ (k : Nat) (da db : PyData) (A : Around) (s : Shared) (a b : Value) (as bs : List Addr), Reads s.heap a da as → Reads s.heap b db bs → rkP k da = true → rkP k db = true → A.units + 2 * k < cLine →
    RcOp .Gt A s a b (ltP k db da)
  | 0, da, _, _, _, _, _, _, _, _, _, h, _, _ => by cases h
  | k + 1, da, db, A, s, a, b, as, bs, ra, rb, ha, hb, hu => by
    obtain ⟨i, x, rfl, hx⟩ := rk_shape ha
    obtain ⟨j, y, rfl, hy⟩ := rk_shape hb
    cases ra with
    | @tuple l o vs n _ as₁ h1 h2 h3 h4 =>
      cases rb with
      | @tuple l' o' ws n' _ bs₁ k1 k2 k3 k4 =>
        obtain ⟨u1, u2, eu, ra1, ra2⟩ := reads_two h4
        obtain ⟨w1, w2, ew, rb1, rb2⟩ := reads_two k4
        have hv : vs = #[u1, u2] := by cases vs; simp only at eu; subst eu; rfl
        have hw : ws = #[w1, w2] := by cases ws; simp only at ew; subst ew; rfl
        subst hv
        subst hw
        obtain ⟨_, ra1⟩ := ra1
        obtain ⟨_, ra2⟩ := ra2
        obtain ⟨_, rb1⟩ := rb1
        obtain ⟨_, rb2⟩ := rb2
        have e0 : EqAt A.in1 s u1 w1 (PyData.eqv (.int i) (.int j)) := eqAt_reads _ _ A.in1 s _ _ _ _ ra1 rb1 rfl rfl (by show A.units + 1 + min 0 0 < _; omega)
        have e1 : EqAt A.in1 s u2 w2 (PyData.eqv x y) := eqAt_reads _ _ A.in1 s _ _ _ _ ra2 rb2 (rk_lay hx).1 (rk_lay hy).1 (by
          have := (rk_lay hx).2
          show A.units + 1 + min x.depth y.depth < _
          omega)
        have r0 : RcOp .Gt A.in1 s u1 w1 (decide (j < i)) := by
          cases ra1
          cases rb1
          intro prog w E Q hq
          exact P.gt_int (by simpa using hq)
        have main := rc_tup_gt (A := A) (s := s) (eq := fun n => if n = 0 then PyData.eqv (.int i) (.int j) else PyData.eqv x y)
          (rc := fun n => if n = 0 then decide (j < i) else inP k y x) ⟨_, h1, h2, _, h3⟩ ⟨_, k1, k2, _, k3⟩ (by omega)
          (fun n j1 j2 => by
            have : n = 0 ∨ n = 1 := by simp at j1; omega
            rcases this with rfl | rfl
            · exact e0
            · exact e1)
          (fun n j1 j2 same ne => by
            have : n = 0 ∨ n = 1 := by simp at j1; omega
            rcases this with rfl | rfl
            · exact r0
            · have es := same 0 (by omega)
              have es : i = j := by simpa [PyData.eqv] using es
              subst es
              have ne : PyData.eqv x y = false := ne
              show RcOp .Gt A.in1 s u2 w2 (inP k y x)
              rcases hx with ⟨i0, m, rfl⟩ | ⟨i1, xs, rfl, hxs⟩
              · rcases hy with ⟨_, m', rfl⟩ | ⟨j1, ys, rfl, hys⟩
                · cases ra2
                  cases rb2
                  intro prog w E Q hq
                  exact P.gt_int (by simpa [inP] using hq)
                · omega
              · rcases hy with ⟨j0, m', rfl⟩ | ⟨_, ys, rfl, hys⟩
                · omega
                · cases ra2 with
                  | @list l2 o2 vs2 n2 _ _ g1 g2 g3 g4 =>
                    cases rb2 with
                    | @list l3 o3 ws2 n3 _ _ f1 f2 f3 f4 =>
                      have n1 : vs2.size = xs.length := by simpa using ReadsAll.length _ _ _ g4
                      have n2' : ws2.size = ys.length := by simpa using ReadsAll.length _ _ _ f4
                      have la := rk_depthAll k xs hxs
                      have lb := rk_depthAll k ys hys
                      have go := RcOp.lists_gt (A := A.in1) (s := s) (l := l2) (b := l3) (items := vs2) (items2 := ws2) (e := pairEq xs ys) (r := fun n => ltP k (ys.getD n .none) (xs.getD n .none)) ⟨_, g1, g2, _, g3⟩ ⟨_, f1, f2, _, f3⟩ (by show A.units + 1 < _; omega)
                        (fun n j1 j2 => by
                          have := eqAt_readsAll xs ys A.in1.in1 s vs2.toList ws2.toList _ _ g4 f4 la.1 lb.1 (by
                            show A.units + 1 + 1 + min _ _ < _
                            have := la.2
                            omega) n (by simpa using j1) (by simpa using j2)
                          simpa using this)
                        (fun n j1 j2 _ => by
                          obtain ⟨_, q1⟩ := reads_at g4 n (by simpa using j1)
                          obtain ⟨_, q2⟩ := reads_at f4 n (by simpa using j2)
                          have := rank_gt k _ _ A.in1.in1 s _ _ _ _ q1 q2 (rk_at hxs n (by omega)) (rk_at hys n (by omega)) (by show A.units + 1 + 1 + 2 * k < _; omega)
                          simpa using this)
                      rw [n1, n2'] at go
                      have ef : inP k (.list ys) (.list xs) = firstLt (pairEq xs ys) (fun n => ltP k (ys.getD n .none) (xs.getD n .none)) (decide (xs.length > ys.length)) (List.range (min xs.length ys.length)) := by rw [inP, pairEq_swap, Nat.min_comm]
                      rw [ef]
                      exact go)
        have ee : ltP (k + 1) (.tuple [.int j, y]) (.tuple [.int i, x]) = firstLt (fun n => if n = 0 then PyData.eqv (.int i) (.int j) else PyData.eqv x y) (fun n => if n = 0 then decide (j < i) else inP k y x) (decide ((#[u1, u2] : Array Value).size > (#[w1, w2] : Array Value).size)) (List.range (min (#[u1, u2] : Array Value).size (#[w1, w2] : Array Value).size)) := by
          show ltP (k + 1) (.tuple [.int j, y]) (.tuple [.int i, x]) = (if PyData.eqv (.int i) (.int j) = true then (if PyData.eqv x y = true then false else _) else _)
          by_cases q : i = j
          · subst q
            have : PyData.eqv (.int i) (.int i) = true := by simp [PyData.eqv]
            rw [if_pos this]
            rw [ltP]
            rw [if_pos rfl, eqv_comm y x]
            rfl
          · have : ¬ PyData.eqv (.int i) (.int j) = true := by simpa [PyData.eqv] using q
            rw [if_neg this]
            rw [ltP]
            rw [if_neg (Ne.symm q)]
            rfl
        rw [ee]
        exact main

theorem rank_lt : ∀ (k : Nat) (da db : PyData) (A : Around) (s : Shared) (a b : Value) (as bs : List Addr), Reads s.heap a da as → Reads s.heap b db bs → rkP k da = true → rkP k db = true → A.units + 2 * k < cLine →
    RcOp .Lt A s a b (ltP k da db)
  | 0, da, _, _, _, _, _, _, _, _, _, h, _, _ => by cases h
  | k + 1, da, db, A, s, a, b, as, bs, ra, rb, ha, hb, hu => by
    obtain ⟨i, x, rfl, hx⟩ := rk_shape ha
    obtain ⟨j, y, rfl, hy⟩ := rk_shape hb
    cases ra with
    | @tuple l o vs n _ as₁ h1 h2 h3 h4 =>
      cases rb with
      | @tuple l' o' ws n' _ bs₁ k1 k2 k3 k4 =>
        obtain ⟨u1, u2, eu, ra1, ra2⟩ := reads_two h4
        obtain ⟨w1, w2, ew, rb1, rb2⟩ := reads_two k4
        have hv : vs = #[u1, u2] := by cases vs; simp only at eu; subst eu; rfl
        have hw : ws = #[w1, w2] := by cases ws; simp only at ew; subst ew; rfl
        subst hv
        subst hw
        obtain ⟨_, ra1⟩ := ra1
        obtain ⟨_, ra2⟩ := ra2
        obtain ⟨_, rb1⟩ := rb1
        obtain ⟨_, rb2⟩ := rb2
        have e0 : EqAt A.in1 s u1 w1 (PyData.eqv (.int i) (.int j)) := eqAt_reads _ _ A.in1 s _ _ _ _ ra1 rb1 rfl rfl (by show A.units + 1 + min 0 0 < _; omega)
        have e1 : EqAt A.in1 s u2 w2 (PyData.eqv x y) := eqAt_reads _ _ A.in1 s _ _ _ _ ra2 rb2 (rk_lay hx).1 (rk_lay hy).1 (by
          have := (rk_lay hx).2
          show A.units + 1 + min x.depth y.depth < _
          omega)
        have r0 : RcOp .Lt A.in1 s u1 w1 (decide (i < j)) := by
          cases ra1
          cases rb1
          intro prog w E Q hq
          exact P.lt_int (by simpa using hq)
        have main := rc_tup_lt (A := A) (s := s) (eq := fun n => if n = 0 then PyData.eqv (.int i) (.int j) else PyData.eqv x y)
          (rc := fun n => if n = 0 then decide (i < j) else inP k x y) ⟨_, h1, h2, _, h3⟩ ⟨_, k1, k2, _, k3⟩ (by omega)
          (fun n j1 j2 => by
            have : n = 0 ∨ n = 1 := by simp at j1; omega
            rcases this with rfl | rfl
            · exact e0
            · exact e1)
          (fun n j1 j2 same ne => by
            have : n = 0 ∨ n = 1 := by simp at j1; omega
            rcases this with rfl | rfl
            · exact r0
            · have es := same 0 (by omega)
              have es : i = j := by simpa [PyData.eqv] using es
              subst es
              have ne : PyData.eqv x y = false := ne
              show RcOp .Lt A.in1 s u2 w2 (inP k x y)
              rcases hx with ⟨i0, m, rfl⟩ | ⟨i1, xs, rfl, hxs⟩
              · rcases hy with ⟨_, m', rfl⟩ | ⟨j1, ys, rfl, hys⟩
                · cases ra2
                  cases rb2
                  intro prog w E Q hq
                  exact P.lt_int (by simpa [inP] using hq)
                · omega
              · rcases hy with ⟨j0, m', rfl⟩ | ⟨_, ys, rfl, hys⟩
                · omega
                · cases ra2 with
                  | @list l2 o2 vs2 n2 _ _ g1 g2 g3 g4 =>
                    cases rb2 with
                    | @list l3 o3 ws2 n3 _ _ f1 f2 f3 f4 =>
                      have n1 : vs2.size = xs.length := by simpa using ReadsAll.length _ _ _ g4
                      have n2' : ws2.size = ys.length := by simpa using ReadsAll.length _ _ _ f4
                      have la := rk_depthAll k xs hxs
                      have lb := rk_depthAll k ys hys
                      have go := RcLt.lists (A := A.in1) (s := s) (l := l2) (b := l3) (items := vs2) (items2 := ws2) (e := pairEq xs ys) (r := fun n => ltP k (xs.getD n .none) (ys.getD n .none)) ⟨_, g1, g2, _, g3⟩ ⟨_, f1, f2, _, f3⟩ (by show A.units + 1 < _; omega)
                        (fun n j1 j2 => by
                          have := eqAt_readsAll xs ys A.in1.in1 s vs2.toList ws2.toList _ _ g4 f4 la.1 lb.1 (by
                            show A.units + 1 + 1 + min _ _ < _
                            have := la.2
                            omega) n (by simpa using j1) (by simpa using j2)
                          simpa using this)
                        (fun n j1 j2 _ => by
                          obtain ⟨_, q1⟩ := reads_at g4 n (by simpa using j1)
                          obtain ⟨_, q2⟩ := reads_at f4 n (by simpa using j2)
                          have := rank_lt k _ _ A.in1.in1 s _ _ _ _ q1 q2 (rk_at hxs n (by omega)) (rk_at hys n (by omega)) (by show A.units + 1 + 1 + 2 * k < _; omega)
                          exact (show RcOp .Lt _ _ _ _ _ by simpa using this))
                      rw [n1, n2'] at go
                      have ef : inP k (.list xs) (.list ys) = firstLt (pairEq xs ys) (fun n => ltP k (xs.getD n .none) (ys.getD n .none)) (decide (xs.length < ys.length)) (List.range (min xs.length ys.length)) := by rw [inP]
                      rw [ef]
                      exact go)
        have ee : ltP (k + 1) (.tuple [.int i, x]) (.tuple [.int j, y]) = firstLt (fun n => if n = 0 then PyData.eqv (.int i) (.int j) else PyData.eqv x y) (fun n => if n = 0 then decide (i < j) else inP k x y) (decide ((#[u1, u2] : Array Value).size < (#[w1, w2] : Array Value).size)) (List.range (min (#[u1, u2] : Array Value).size (#[w1, w2] : Array Value).size)) := by
          show ltP (k + 1) (.tuple [.int i, x]) (.tuple [.int j, y]) = (if PyData.eqv (.int i) (.int j) = true then (if PyData.eqv x y = true then false else _) else _)
          by_cases q : i = j
          · subst q
            have : PyData.eqv (.int i) (.int i) = true := by simp [PyData.eqv]
            rw [if_pos this]
            rw [ltP]
            rw [if_pos rfl]
            rfl
          · have : ¬ PyData.eqv (.int i) (.int j) = true := by simpa [PyData.eqv] using q
            rw [if_neg this]
            rw [ltP]
            rw [if_neg q]
            rfl
        rw [ee]
        exact main
end Mi
/-! MiSrt1: the order of ranks is a strict weak one; a stable sort in plain Lean. -/
namespace Mi
open PySem PySem.SeqAt PySem.Spec PyProof.Rows
open SrtO (Swo Srtd Stb)

/-! ### rows compared, of any type -/
section
open Classical
variable {α : Type}
end
/-! ### ranks -/
section
open Classical
end
/-! ### rows of numbers -/
def lexI : List Int → List Int → Bool
  | _, [] => false
  | [], _ :: _ => true
  | x :: a, y :: b => if x = y then lexI a b else decide (x < y)
theorem first_lexI {e r : Nat → Bool} {fin : Bool} : ∀ (a b : List Int) (j : Nat), (∀ i x y, a[i]? = some x → b[i]? = some y → e (j + i) = decide (x = y)) → (∀ i x y, a[i]? = some x → b[i]? = some y → r (j + i) = decide (x < y)) → fin = decide (a.length < b.length) →
    firstLt e r fin (List.range' j (min a.length b.length)) = lexI a b
  | a, [], j, _, _, hf => by simp [firstLt, lexI, hf]
  | [], y :: b, j, _, _, hf => by simp [firstLt, lexI, hf]
  | x :: a, y :: b, j, he, hr, hf => by
    have m : min (x :: a).length (y :: b).length = min a.length b.length + 1 := by simp only [List.length_cons]; omega
    rw [m, List.range'_succ]
    have e0 := he 0 x y rfl rfl
    have r0 := hr 0 x y rfl rfl
    rw [Nat.add_zero] at e0 r0
    simp only [lexI]
    by_cases q : x = y
    · rw [firstLt_yes (by rw [e0]; exact decide_eq_true q), if_pos q]
      exact first_lexI a b (j + 1) (fun i u v hu hv => by have := he (i + 1) u v (by simpa using hu) (by simpa using hv); rw [show j + 1 + i = j + (i + 1) by omega]; exact this)
        (fun i u v hu hv => by have := hr (i + 1) u v (by simpa using hu) (by simpa using hv); rw [show j + 1 + i = j + (i + 1) by omega]; exact this) (by rw [hf]; simp)
    · rw [firstLt_no (by rw [e0]; exact decide_eq_false q), if_neg q, r0]
/-! ### a stable sort -/
section
variable {α β : Type}
def insG (lt : α → α → Bool) (x : α) : List α → List α
  | [] => [x]
  | y :: l => if lt y x = true then y :: insG lt x l else x :: y :: l
def isortG (lt : α → α → Bool) : List α → List α
  | [] => []
  | x :: l => insG lt x (isortG lt l)
variable {lt : α → α → Bool}
/-- place by place -/
inductive F2 (R : α → β → Prop) : List α → List β → Prop where
  | nil : F2 R [] []
  | cons {x : α} {y : β} {l : List α} {m : List β} (h : R x y) (t : F2 R l m) : F2 R (x :: l) (y :: m)
variable {R : α → β → Prop} {lt2 : β → β → Bool}
theorem F2.mem : ∀ {l : List α} {m : List β}, F2 R l m → ∀ x ∈ l, ∃ y ∈ m, R x y
  | _, _, .cons h t, x, hx => by
    rcases List.mem_cons.mp hx with e | hx
    · exact ⟨_, List.mem_cons_self, by rw [e]; exact h⟩
    · obtain ⟨y, h1, h2⟩ := t.mem x hx
      exact ⟨y, List.mem_cons_of_mem _ h1, h2⟩
end
end Mi
/-! MiSrt2: a list sorted by keys that are ranks. -/
namespace Mi
open PySem PySem.SeqAt PySem.Spec PyProof.Rows PySem.W PySem.Calls
open Srt SrtO
open Classical in
section
variable {prog : Program} {w : World} {A : Around} {s : Shared}
end
section
variable {prog : Program} {w : World} {A : Around} {E : Value → Shared → Prop} {s : Shared} {a kS : Addr} {vs : List Value} {keys : Array Value} {e e1 : Nat} {P : PySem.Fin → Shared → Prop}
end
end Mi
/-! Mi1: a small language over plain data, and its evaluator. -/
namespace Mi
open PySem PySem.Spec PyProof.Rows L2

/-- data; sp: a kept exception of the class c with its fields (b), or the def c -/
inductive D where
  | non | bl (b : Bool) | int (i : Int) | str (s : Str)
  | tup (l : List D)
  | lst (l : List D)
  | arg (l : List D)
  | ref (n : Nat)
  | sp (b : Bool) (c : Str) (l : List D)
  deriving Inhabited
/-- what an expression gives: data, a list just made, a list that a name owns -/
inductive R where
  | dat (d : D) | new (l : List D) | bor (l : List D)
/-- what stands in the small heap -/
inductive O where
  | lst (l : List D)
  | dct (l : List (Key × D))
abbrev Hh := List O
structure Exc where
  cls : Str
  fs : List D
inductive Res (α : Type) where
  | ok (a : α) (h : Hh)
  | ex (x : Exc) (h : Hh)
  | bad
def Res.bind {α β : Type} : Res α → (α → Hh → Res β) → Res β
  | .ok a h, f => f a h
  | .ex x h, _ => .ex x h
  | .bad, _ => .bad
/-- a pure answer -/
def Res.of {α : Type} (h : Hh) : Option α → Res α
  | some a => .ok a h
  | none => .bad
inductive Slot where
  | un | val (d : D) | own (l : List D)
abbrev Env' := List Slot

def R.fz : R → Option D
  | .dat d => some d
  | .new l => some (.lst l)
  | .bor _ => none
def lv (h : Hh) : R → Option (List D)
  | .dat (.lst l) => some l
  | .new l => some l
  | .bor l => some l
  | .dat (.ref n) => match h[n]? with
    | some (.lst l) => some l
    | _ => none
  | _ => none
/-- any list, any tuple -/
def sv (h : Hh) : R → Option (List D)
  | .dat (.tup l) => some l
  | .dat (.arg l) => some l
  | r => lv h r

/-- any list but the script's, any tuple -/
def svN (h : Hh) : R → Option (List D)
  | .dat (.tup l) => some l
  | r => lv h r
inductive Bop where
  | add | sub | mul | fdiv | mod | pow
inductive Cop where
  | eq | ne | lt | le | gt | ge | isin | notin | is | isnot
inductive Ty where
  | int | bool | str | tuple | list
inductive Blt where
  | len | all | any | repr | toInt | toStr | toTuple | toList | setLen | min2 | max2 | sum | maxL | minL | sorted
inductive Mth where
  | split | join | index

mutual
def D.py : D → Option PyData
  | .non => some .none
  | .bl b => some (.bool b)
  | .int i => some (.int i)
  | .str s => some (.str s)
  | .tup l => (pyAll l).map .tuple
  | .lst l => (pyAll l).map .list
  | .arg l => (pyAll l).map .list
  | .ref _ => none
  | .sp _ _ _ => none
def pyAll : List D → Option (List PyData)
  | [] => some []
  | d :: l => match d.py, pyAll l with
    | some x, some xs => some (x :: xs)
    | _, _ => none
end
def R.py : R → Option PyData
  | .dat d => d.py
  | .new l => (pyAll l).map .list
  | .bor l => (pyAll l).map .list
def R.pyH (h : Hh) : R → Option PyData
  | .dat (.ref n) => match h[n]? with
    | some (.lst l) => (pyAll l).map .list
    | _ => none
  | r => r.py

def addF (h : Hh) : R → R → Option R
  | .dat (.int i), .dat (.int j) => some (.dat (.int (i + j)))
  | .dat (.str a), .dat (.str b) => if a.length + b.length ≤ sizeLine then some (.dat (.str (a ++ b))) else none
  | .dat (.tup a), .dat (.tup b) => if a.length + b.length ≤ sizeLine then some (.dat (.tup (a ++ b))) else none
  | x, y => match lv h x, lv h y with
    | some a, some b => if a.length + b.length ≤ sizeLine then some (.new (a ++ b)) else none
    | _, _ => none
def near (i : Int) : Bool := decide (-(2 ^ 64) < i) && decide (i < 2 ^ 64)
def twoI (f : Int → Int → Option D) : R → R → Option R
  | .dat (.int i), .dat (.int j) => (f i j).map .dat
  | _, _ => none
def mulI (i j : Int) : Option D := if near i || near j then some (.int (i * j)) else none
def fdivI (i j : Int) : Option D := if j ≠ 0 ∧ j.natAbs < 1073741824 then some (.int (i.fdiv j)) else none
def modI (i j : Int) : Option D := if j ≠ 0 then some (.int (i.fmod j)) else none
def mulF (h : Hh) : R → R → Option R
  | .dat (.int i), .dat (.int j) => (mulI i j).map .dat
  | .dat (.str a), .dat (.int k) => if -(2 ^ 63) ≤ k ∧ k < 2 ^ 63 ∧ a.length * k.toNat ≤ sizeLine then some (.dat (.str (repS a k.toNat))) else none
  | .dat (.tup a), .dat (.int k) => if -(2 ^ 63) ≤ k ∧ k < 2 ^ 63 ∧ a.length * k.toNat ≤ 1000000 then some (.dat (.tup (List.replicate k.toNat a).flatten)) else none
  | x, .dat (.int k) => match lv h x with
    | some l => if -(2 ^ 63) ≤ k ∧ k < 2 ^ 63 ∧ l.length * k.toNat ≤ sizeLine then some (.new (List.replicate k.toNat l).flatten) else none
    | none => none
  | _, _ => none
def powI (i j : Int) : Option D := if 0 ≤ j ∧ j ≤ 1000000 ∧ i.natAbs < 2 ^ 64 then some (.int (i ^ j.toNat)) else none
def binF (h : Hh) : Bop → R → R → Option R
  | .add => addF h
  | .sub => twoI fun i j => some (.int (i - j))
  | .mul => mulF h
  | .fdiv => twoI fdivI
  | .mod => twoI modI
  | .pow => twoI powI
def eqF (h : Hh) (x y : R) : Option Bool :=
  match x, y with
  | .dat (.str a), .dat (.str b) => some (decide (a = b))
  | .dat (.tup a), .dat (.tup []) => some a.isEmpty
  | .dat (.lst a), .new [] => some a.isEmpty
  | x, y => match x.pyH h, y.pyH h with
  | some a, some b => if SeqAt.shaped a && SeqAt.shaped b then some (PyData.eqv a b) else none
  | _, _ => none
def strsOf : List D → Option (List Str)
  | [] => some []
  | .str s :: l => (strsOf l).map (s :: ·)
  | _ => none
def boolsOf : List D → Option (List Bool)
  | [] => some []
  | .bl s :: l => (boolsOf l).map (s :: ·)
  | _ => none
def intsOf : List D → Option (List Int)
  | [] => some []
  | .int s :: l => (intsOf l).map (s :: ·)
  | _ => none
def D.flat : D → Option V
  | .non => some .non
  | .bl b => some (.bl b)
  | .int i => some (.int i)
  | .str x => some (.str x)
  | _ => none
def flats : List D → Option (List V)
  | [] => some []
  | d :: l => match d.flat, flats l with
    | some v, some vs => some (v :: vs)
    | _, _ => none
/-- x in y -/
def inF (h : Hh) : R → R → Option Bool
  | .dat (.str a), .dat (.str b) => match a.cps.toList with
    | [c] => some (decide (c ∈ b.cps.toList))
    | _ => none
  | .dat d, y => match d.flat, (sv h y).bind flats with
    | some v, some vs => some (inV v vs)
    | _, _ => match d.py, y.pyH h with
      | some p, some (.list ds) => if SeqAt.shaped p && SeqAt.shaped (.list ds) then some (ds.any fun z => PyData.eqv z p) else none
      | _, _ => none
  | _, _ => none
def ordF (f : Int → Int → Bool) : R → R → Option Bool
  | .dat (.int i), .dat (.int j) => some (f i j)
  | _, _ => none
def isN : R → R → Option Bool
  | .dat .non, .dat .non => some true
  | _, .dat .non => some false
  | .dat (.bl a), .dat (.bl b) => some (decide (a = b))
  | _, _ => none
/-- ranks -/
def rkF (h : Hh) (x y : R) : Option Bool := match x.pyH h, y.pyH h with
  | some a, some b => if rkP 9 a && rkP 9 b then some (ltP 9 a b) else none
  | _, _ => none
def orB : Option Bool → Option Bool → Option Bool
  | some b, _ => some b
  | none, z => z
/-- rows of numbers -/
def tiF (x y : R) : Option Bool := match x, y with
  | .dat (.tup a), .dat (.tup b) => match intsOf a, intsOf b with
    | some m, some n => some (lexI m n)
    | _, _ => none
  | _, _ => none
def cmpF (h : Hh) : Cop → R → R → Option Bool
  | .eq, x, y => eqF h x y
  | .ne, x, y => (eqF h x y).map (!·)
  | .lt, x, y => orB (ordF (fun i j => decide (i < j)) x y) (orB (rkF h x y) (tiF x y))
  | .le, x, y => ordF (fun i j => decide (i ≤ j)) x y
  | .gt, x, y => orB (ordF (fun i j => decide (j < i)) x y) (rkF h y x)
  | .ge, x, y => ordF (fun i j => decide (j ≤ i)) x y
  | .isin, x, y => inF h x y
  | .notin, x, y => (inF h x y).map (!·)
  | .is, x, y => isN x y
  | .isnot, x, y => (isN x y).map (!·)
def isiF (h : Hh) (t : Ty) : D → Option Bool
  | .non => some false
  | .bl _ => some (match t with | .int => true | .bool => true | _ => false)
  | .int _ => some (match t with | .int => true | _ => false)
  | .str _ => some (match t with | .str => true | _ => false)
  | .tup _ => some (match t with | .tuple => true | _ => false)
  | .lst _ => some (match t with | .list => true | _ => false)
  | .arg _ => none
  | .sp _ _ _ => none
  | .ref n => match h[n]? with
    | some (.lst _) => some (match t with | .list => true | _ => false)
    | some (.dct _) => some false
    | none => none
def lenF (h : Hh) : List D → Option R
  | [.str s] => if s.length ≤ sizeLine then some (.dat (.int s.length)) else none
  | [d] => (sv h (.dat d)).map fun l => .dat (.int l.length)
  | _ => none
def allF : List D → Option R
  | [.lst l] => (boolsOf l).map fun bs => .dat (.bl (bs.all id))
  | _ => none
def anyF : List D → Option R
  | [.lst l] => (boolsOf l).map fun bs => .dat (.bl (bs.any id))
  | _ => none
mutual
/-- data with empty dicts of the heap in it -/
def D.pyE (h : Hh) : D → Option PyData
  | .non => some .none
  | .bl b => some (.bool b)
  | .int i => some (.int i)
  | .str s => some (.str s)
  | .tup l => (pyAllE h l).map .tuple
  | .lst l => (pyAllE h l).map .list
  | .ref n => match h[n]? with
    | some (.dct []) => some (.dict [])
    | _ => none
  | _ => none
def pyAllE (h : Hh) : List D → Option (List PyData)
  | [] => some []
  | d :: l => match d.pyE h, pyAllE h l with
    | some x, some xs => some (x :: xs)
    | _, _ => none
end
def reprE (h : Hh) (d : D) : Option R := match d.pyE h with
  | some p => if p.showable && decide (p.shown.length ≤ sizeLine) && decide (p.depth ≤ 64) then some (.dat (.str p.shown)) else none
  | none => none
def reprF (h : Hh) : List D → Option R
  | [d] => match (R.dat d).pyH h with
    | some p => if p.showable && !p.hasDict && decide (p.shown.length ≤ sizeLine) && decide (p.depth ≤ 64) then some (.dat (.str p.shown)) else none
    | none => reprE h d
  | _ => none
def toIntF : List D → Option R
  | [.int i] => some (.dat (.int i))
  | [.bl b] => some (.dat (.int (if b then 1 else 0)))
  | [.str s] => match PySem.intText? s with
    | some n => if s.length ≤ 640 then some (.dat (.int n)) else none
    | none => none
  | _ => none
def toStrF : List D → Option R
  | [.str s] => some (.dat (.str s))
  | [.int i] => if i.natAbs.log2 < 1920 then some (.dat (.str (toString i))) else none
  | _ => none
def toTupF (h : Hh) : List D → Option R
  | [.tup l] => some (.dat (.tup l))
  | [d] => (lv h (.dat d)).map fun l => .dat (.tup l)
  | _ => none
def toLstF (h : Hh) : List D → Option R
  | [d] => (sv h (.dat d)).map fun l => .new l
  | _ => none
def max2F : List D → Option R
  | [.int i, .int j] => some (.dat (.int (if j > i then j else i)))
  | _ => none
def min2F : List D → Option R
  | [.int i, .int j] => some (.dat (.int (if j < i then j else i)))
  | _ => none
def maxI : List Int → Option Int
  | [] => none
  | n :: ns => some (ns.foldl (fun a b => if a < b then b else a) n)
def minI : List Int → Option Int
  | [] => none
  | n :: ns => some (ns.foldl (fun a b => if b < a then b else a) n)
def intsL (h : Hh) (d : D) : Option (List Int) := (lv h (.dat d)).bind intsOf
def intsT (h : Hh) (d : D) : Option (List Int) := (svN h (.dat d)).bind intsOf
def sumF (h : Hh) : List D → Option R
  | [d] => (intsL h d).map fun ns => .dat (.int ns.sum)
  | _ => none
def maxF (h : Hh) : List D → Option R
  | [d] => ((intsL h d).bind maxI).map fun m => .dat (.int m)
  | _ => none
def minF (h : Hh) : List D → Option R
  | [d] => ((intsT h d).bind minI).map fun m => .dat (.int m)
  | _ => none
/-- tuples that are not empty -/
def tup1B : PyData → Bool
  | .tuple (_ :: _) => true
  | _ => false
def otherB : PyData → Bool
  | .tuple _ => false
  | .none => false
  | _ => true
/-- data that can be sorted -/
def sortB (ps : List PyData) : Bool := ps.all (fun p => ps.all fun q => PySem.W.alike p q) && (ps.all tup1B || ps.all otherB) && ps.all fun p => decide (p.depth ≤ 20)
def sortDF (ds : List D) : Option (List D) := match pyAll ds with
  | some ps => if sortB ps then some (((ps.zip ds).mergeSort (PySem.W.dataLe false fun p => p.1)).map (·.2)) else none
  | none => none
def sortedF : List D → Option R
  | [.lst l] => (sortDF l).map .new
  | _ => none
def bltF (h : Hh) : Blt → List D → Option R
  | .len => lenF h
  | .all => allF
  | .any => anyF
  | .repr => reprF h
  | .toInt => toIntF
  | .toStr => toStrF
  | .toTuple => toTupF h
  | .toList => toLstF h
  | .max2 => max2F
  | .min2 => min2F
  | .sum => sumF h
  | .maxL => maxF h
  | .minL => minF h
  | .sorted => sortedF
  | _ => fun _ => none
/-- a built-in of one thing, which may be a list that a name owns -/
def lenB (h : Hh) : R → Option R
  | .dat (.str s) => if s.length ≤ sizeLine then some (.dat (.int s.length)) else none
  | x => (sv h x).map fun l => .dat (.int l.length)
def reprB (h : Hh) (x : R) : Option R := match x.pyH h with
  | some p => if p.showable && !p.hasDict && decide (p.shown.length ≤ sizeLine) && decide (p.depth ≤ 64) then some (.dat (.str p.shown)) else none
  | none => match x with
    | .dat d => reprE h d
    | _ => none
def bltR (h : Hh) : Blt → R → Option R
  | .len => lenB h
  | .repr => reprB h
  | _ => fun _ => none
def splitF (a : Str) : List D → Option R
  | [.str b] => if (b.length == 0) = false ∧ a.length + 2 ≤ sizeLine then some (.new ((Txt.split a b).map .str)) else none
  | _ => none
def joinF (a : Str) : List D → Option R
  | [.lst l] => match strsOf l with
    | some ys => if (ys.map (·.length)).sum + ys.length * a.length ≤ 16777216 then some (.dat (.str (Txt.join a ys))) else none
    | none => none
  | _ => none
def indexF (a : Str) : List D → Option R
  | [.str b] => match Builtin.Str.occurrences a b 0 a.length 1 with
    | i :: _ => some (.dat (.int (i : Nat)))
    | [] => none
  | _ => none
def mthF : Mth → Str → List D → Option R
  | .index => indexF
  | .split => splitF
  | .join => joinF
def keyOf : D → Option Key
  | .int i => some (.inl i)
  | .str s => some (.inr s)
  | _ => none
def dLook (l : List (Key × D)) (k : Key) : Option D := (l.find? fun kv => decide (kv.1 = k)).map (·.2)
def dPut (l : List (Key × D)) (k : Key) (d : D) : List (Key × D) :=
  if (l.any fun kv => decide (kv.1 = k)) = true then l.map (fun kv => if kv.1 = k then (kv.1, d) else kv) else l ++ [(k, d)]
def dctOf (h : Hh) : R → Option (List (Key × D))
  | .dat (.ref n) => match h[n]? with
    | some (.dct l) => some l
    | _ => none
  | _ => none
def dgetF (h : Hh) (x y : R) : Option D := match dctOf h x, y with
  | some l, .dat k => (keyOf k).bind fun j => dLook l j
  | _, _ => none
def ixF (h : Hh) : R → R → Option D
  | .dat (.str z), .dat (.int i) => if z.length ≤ sizeLine then (atI z.cps.toList i).map fun c => .str ⟨#[c]⟩ else none
  | x, .dat (.int i) => (sv h x).bind fun l => atI l i
  | _, _ => none
/-- the part of a list between two places -/
def cutD (l : List D) (lo hi : Option Int) : List D := (l.drop (HT.sIx l.length 0 lo)).take (HT.sIx l.length l.length hi - HT.sIx l.length 0 lo)
def slF (h : Hh) (lo hi : Option Int) : R → Option R
  | .dat (.str z) => if z.length ≤ sizeLine then some (.dat (.str (cutS z lo hi))) else none
  | .dat (.tup l) => some (.dat (.tup (cutD l lo hi)))
  | x => (lv h x).map fun l => .new (cutD l lo hi)

def revF (h : Hh) : R → Option R
  | .dat (.tup l) => some (.dat (.tup l.reverse))
  | x => (lv h x).map fun l => .new l.reverse
def negF : R → Option R
  | .dat (.int i) => some (.dat (.int (-i)))
  | _ => none
mutual
inductive E where
  | var (i : Nat) | con (d : D) | glo (x : Str)
  | bin (op : Bop) (a b : E) | neg (a : E)
  | cmp (op : Cop) (a b : E) | chain (p q : Cop) (a b c : E)
  | and2 (a b : E) | or2 (a b : E) | not1 (a : E) | ite (c a b : E)
  | call (f : Str) (es : Es) | blt (f : Blt) (es : Es) | blt1 (f : Blt) (a : E) | isi (a : E) (t : Ty) | mth (m : Mth) (o : E) (es : Es)
  | ix (a b : E) | dget (a b : E) | sl (a : E) (lo hi : Oe)
  | tup (es : Es) | lst (es : Es) | dct (ks : List Key) (es : Es)
  | comp (own : List Nat) (t : Tg) (it : Iter) (c e : E)
  | compO (own : List Nat) (t : Tg) (j : Nat) (c e : E)
  | promo (e : E)
  | lrng1 (a : E) | lrng2 (a b : E) | trng1 (a : E) | trng2 (a b : E) | trng3 (a b c : E) | rev (a : E)
  | sortK (f : Str) (a : E) | lenSet (a : E) | popL (o a : E)
  | gget (x : Str) (kvs : List (Str × D)) (e : E) | gin (x : Str) (ks : List (Str × D)) (e : E)
  | fnv (x : Str) | callv (i : Nat) (es : Es) | isx (a : E) (c : Str) | attr (a : E) (f : Str) | told (f : Str) (e : E)
inductive Oe where
  | no | part (e : E)
inductive Es where
  | nil | cons (e : E) (es : Es)
inductive Tg where
  | nm (i : Nat) | tp (is : List Nat)
inductive Iter where
  | seq (e : E) | rng1 (a : E) | rng2 (a b : E) | rng3 (a b c : E) | enum (e : E) | zip (a b : E) | zipN (a b : E) | items (e : E)
end

def Es.len : Es → Nat
  | .nil => 0
  | .cons _ es => es.len + 1
/-- names stored: i-th slot -/
def setV (env : Env') (i : Nat) (d : D) : Env' := env.set i (.val d)
def setVs : Env' → List Nat → List D → Option Env'
  | env, [], [] => some env
  | env, i :: is, d :: ds => setVs (setV env i d) is ds
  | _, _, _ => none
def Tg.bind : Tg → Env' → D → Option Env'
  | .nm i, env, d => some (setV env i d)
  | .tp is, env, .tup ds => setVs env is ds
  | .tp _, _, _ => none
def wipeE (env : Env') : List Nat → Env'
  | [] => env
  | v :: vs => (wipeE env vs).set v .un
def rngOk (i : Int) : Bool := decide (-(2 ^ 62) ≤ i) && decide (i < 2 ^ 62)
def rngL (lo : Int) (n : Nat) : List D := (List.range n).map fun k => .int (lo + (k : Nat))
def rng3L (lo c : Int) (n : Nat) : List D := (List.range n).map fun k => .int (lo + (k : Nat) * c)
def rng3R : R → R → R → Hh → Res (List D)
  | .dat (.int i), .dat (.int j), .dat (.int c), h => if c ≠ 0 ∧ c.natAbs < 1073741824 ∧ Builtin.Range.small i j c = true ∧ 0 ≤ Builtin.Range.rangeSize i j c then .ok (rng3L i c (Builtin.Range.rangeSize i j c).toNat) h else .bad
  | _, _, _, _ => .bad
def enumL : Nat → List D → List D
  | _, [] => []
  | k, d :: l => .tup [.int (k : Nat), d] :: enumL (k + 1) l
def zipL : List D → List D → List D
  | x :: xs, y :: ys => .tup [x, y] :: zipL xs ys
  | _, _ => []
def signsL (s : Str) : List D := s.cps.toList.map fun c => .str ⟨#[c]⟩
/-- what a loop walks: data that stays -/
def itF : R → Option (List D)
  | .dat (.tup l) => some l
  | .dat (.lst l) => some l
  | .dat (.arg l) => some l
  | .dat (.str s) => some (signsL s)
  | .new l => some l
  | _ => none
def itL : R → Option (List D)
  | .dat (.lst l) => some l
  | .dat (.arg l) => some l
  | .new l => some l
  | _ => none
/-- what enumerate walks -/
def itE : R → Option (List D)
  | .dat (.tup l) => some l
  | x => itL x
def zipF : R → R → Option (List D)
  | .dat (.tup l), .dat (.tup m) => some (zipL l m)
  | .dat d, y => match itL (.dat d), itL y with
    | some l, some m => some (zipL l m)
    | _, _ => none
  | _, _ => none
/-- zip of two lists -/
def zipFN : R → R → Option (List D)
  | .dat d, y => match itL (.dat d), itL y with
    | some l, some m => some (zipL l m)
    | _, _ => none
  | _, _ => none
/-- list(range(..)) -/
def lrngR (lo : Int) : R → Hh → Res R
  | .dat (.int j), h => if rngOk lo && rngOk j && decide ((j - lo).toNat ≤ 16777216) then .ok (.new (rngL lo (j - lo).toNat)) h else .bad
  | _, _ => .bad
def trngR (lo : Int) : R → Hh → Res R
  | .dat (.int j), h => if rngOk lo && rngOk j && decide ((j - lo).toNat ≤ 16777216) then .ok (.dat (.tup (rngL lo (j - lo).toNat))) h else .bad
  | _, _ => .bad
def trngR2 : R → R → Hh → Res R
  | .dat (.int i), y, h => trngR i y h
  | _, _, _ => .bad
def lrngR2 : R → R → Hh → Res R
  | .dat (.int i), y, h => lrngR i y h
  | _, _, _ => .bad
/-- a comprehension's loop -/
def compLoop (f : D → Hh → Res (Option D)) : List D → List D → Hh → Res R
  | [], acc, h => .ok (.new acc) h
  | d :: ds, acc, h => match f d h with
    | .ok none h' => compLoop f ds acc h'
    | .ok (some x) h' => if acc.length < sizeLine then compLoop f ds (acc ++ [x]) h' else .bad
    | _ => .bad
/-- the program's refusals -/
def refusals : List Str := ["WayError", "BadThing", "BadKind", "BadPattern", "BadStand", "BadPlace", "TooMany", "BadBook", "BadRow", "NotPlain", "NotNameless", "BadPaper"]
/-- the fields that they bear -/
def fldN (x : Str) : List Str := if x = "BadBook" then ["rule"] else if x = "BadRow" then ["row", "word"] else []
/-- isinstance of a refusal -/
def isxF (k c : Str) : Option Bool := if refusals.contains k then (if c = "ValueError" ∨ c = "WayError" then some true else if refusals.contains c then some (decide (k = c)) else none) else none
def attrF (k : Str) (l : List D) (f : Str) : Option D := if (fldN k).contains f then l[(fldN k).idxOf f]? else none
def noEx : Res R → Res R
  | .ok r h => .ok r h
  | _ => .bad
abbrev Calls' := Str → List D → Hh → Res R
/-- a key of each -/
def keysLoop (C : Calls') (f : Str) : List D → List D → Hh → Res (List D)
  | [], acc, h => .ok acc h
  | d :: ds, acc, h => match C f [d] h with
    | .ok r h' => match r.fz with
      | some k => keysLoop C f ds (acc ++ [k]) h'
      | none => .bad
    | _ => .bad
/-- sorted by keys that are ranks -/
def sortKF (ks ds : List D) : Option (List D) := match pyAll ks with
  | some ps => if ps.all (rkP 9) then some ((isortG (fun p q : PyData × D => ltP 9 p.1 q.1) (ps.zip ds)).map (·.2)) else none
  | none => none
/-- taken out of a list of the heap -/
def popR (n : Nat) (y : R) (h : Hh) : Res R := match y with
  | .dat (.int i) => match h[n]? with
    | some (.lst l) => match (if 0 ≤ i then l[i.toNat]? else none) with
      | some d => if l.length ≤ sizeLine then .ok (.dat d) (h.set n (.lst (l.eraseIdx i.toNat))) else .bad
      | none => .bad
    | _ => .bad
  | _ => .bad
/-- a dict written at the top, asked -/
def ggetF (kvs : List (Str × D)) : R → Option D
  | .dat (.str s) => kvs.lookup s
  | _ => none
def ginF (kvs : List (Str × D)) : R → Option Bool
  | .dat (.str s) => some (kvs.lookup s).isSome
  | _ => none
/-- how many unlike ones -/
def distN (ns : List Int) : Nat := (PyProof.Rows.firstMet (fun i => ns.getD i 0) ns.length).length
section
variable (C : Calls') (G : Str → Option D)
mutual
def evalE : E → Env' → Hh → Res R
  | .var i, env, h => match env[i]? with
    | some (.val d) => .ok (.dat d) h
    | some (.own l) => .ok (.bor l) h
    | _ => .bad
  | .con d, _, h => .ok (.dat d) h
  | .glo x, _, h => Res.of h ((G x).map .dat)
  | .bin op a b, env, h => (evalE a env h).bind fun x h1 => (evalE b env h1).bind fun y h2 => Res.of h2 (binF h2 op x y)
  | .neg a, env, h => (evalE a env h).bind fun x h1 => Res.of h1 (negF x)
  | .cmp op a b, env, h => (evalE a env h).bind fun x h1 => (evalE b env h1).bind fun y h2 => Res.of h2 ((cmpF h2 op x y).map fun b => .dat (.bl b))
  | .chain p q a b c, env, h => (evalE a env h).bind fun x h1 => (evalE b env h1).bind fun y h2 => match cmpF h2 p x y with
    | some true => (evalE c env h2).bind fun z h3 => Res.of h3 ((cmpF h3 q y z).map fun b => .dat (.bl b))
    | some false => .ok (.dat (.bl false)) h2
    | none => .bad
  | .and2 a b, env, h => (evalE a env h).bind fun x h1 => match x with
    | .dat (.bl true) => evalE b env h1
    | .dat (.bl false) => .ok (.dat (.bl false)) h1
    | _ => .bad
  | .or2 a b, env, h => (evalE a env h).bind fun x h1 => match x with
    | .dat (.bl true) => .ok (.dat (.bl true)) h1
    | .dat (.bl false) => evalE b env h1
    | _ => .bad
  | .not1 a, env, h => (evalE a env h).bind fun x h1 => match x with
    | .dat (.bl k) => .ok (.dat (.bl (!k))) h1
    | _ => .bad
  | .ite c a b, env, h => (evalE c env h).bind fun x h1 => match x with
    | .dat (.bl true) => evalE a env h1
    | .dat (.bl false) => evalE b env h1
    | _ => .bad
  | .call f es, env, h => (evalEs es env h).bind fun ds h1 => C f ds h1
  | .blt f es, env, h => (evalEs es env h).bind fun ds h1 => Res.of h1 (bltF h1 f ds)
  | .blt1 f a, env, h => (evalE a env h).bind fun x h1 => Res.of h1 (bltR h1 f x)
  | .isi a t, env, h => (evalE a env h).bind fun x h1 => match x.fz with
    | some d => Res.of h1 ((isiF h1 t d).map fun b => .dat (.bl b))
    | none => .bad
  | .mth m o es, env, h => (evalE o env h).bind fun x h1 => match x with
    | .dat (.str a) => (evalEs es env h1).bind fun ds h2 => Res.of h2 (mthF m a ds)
    | _ => .bad
  | .ix a b, env, h => (evalE a env h).bind fun x h1 => (evalE b env h1).bind fun y h2 => Res.of h2 ((ixF h2 x y).map .dat)
  | .dget a b, env, h => (evalE a env h).bind fun x h1 => (evalE b env h1).bind fun y h2 => Res.of h2 ((dgetF h2 x y).map .dat)
  | .sl a lo hi, env, h => (evalE a env h).bind fun x h1 => (evalO lo env h1).bind fun i h2 => (evalO hi env h2).bind fun j h3 => Res.of h3 (slF h3 i j x)
  | .tup es, env, h => (evalEs es env h).bind fun ds h1 => if ds.length ≤ sizeLine then .ok (.dat (.tup ds)) h1 else .bad
  | .lst es, env, h => (evalEs es env h).bind fun ds h1 => if ds.length ≤ sizeLine then .ok (.new ds) h1 else .bad
  | .dct ks es, env, h => (evalEs es env h).bind fun ds h1 => if ks.length ≤ 15 ∧ ks.Nodup then .ok (.dat (.ref h1.length)) (h1 ++ [.dct (ks.zip ds)]) else .bad
  | .comp own t it c e, env, h => (evalI it env h).bind fun ds h1 => compLoop (fun d h2 => match t.bind (wipeE env own) d with
    | none => .bad
    | some env' => (evalE c env' h2).bind fun b h3 => match b with
      | .dat (.bl true) => (evalE e env' h3).bind fun x h4 => match x.fz with
        | some y => .ok (some y) h4
        | none => .bad
      | .dat (.bl false) => .ok none h3
      | _ => .bad) ds [] h1
  | .compO own t j c e, env, h => match env[j]? with
    | some (.own ds) => compLoop (fun d h2 => match t.bind (wipeE env own) d with
    | none => .bad
    | some env' => (evalE c env' h2).bind fun b h3 => match b with
      | .dat (.bl true) => (evalE e env' h3).bind fun x h4 => match x.fz with
        | some y => .ok (some y) h4
        | none => .bad
      | .dat (.bl false) => .ok none h3
      | _ => .bad) ds [] h
    | _ => .bad
  | .fnv x, _, h => .ok (.dat (.sp false x [])) h
  | .callv i es, env, h => match env[i]? with
    | some (.val (.sp false x _)) => (evalEs es env h).bind fun ds h1 => C x ds h1
    | _ => .bad
  | .isx a c, env, h => (evalE a env h).bind fun x h1 => match x with
    | .dat (.sp true k _) => Res.of h1 ((isxF k c).map fun b => .dat (.bl b))
    | _ => .bad
  | .attr a f, env, h => (evalE a env h).bind fun x h1 => match x with
    | .dat (.sp true k l) => Res.of h1 ((attrF k l f).map .dat)
    | _ => .bad
  | .told f e, env, h => match evalE e env h with
    | .ok r h1 => match r.fz with
      | some d => .ok (.new [d]) h1
      | none => .bad
    | .ex x h1 => noEx (C f [.sp true x.cls x.fs] h1)
    | .bad => .bad
  | .lrng1 a, env, h => (evalE a env h).bind fun x h1 => lrngR 0 x h1
  | .lrng2 a b, env, h => (evalE a env h).bind fun x h1 => (evalE b env h1).bind fun y h2 => lrngR2 x y h2
  | .trng1 a, env, h => (evalE a env h).bind fun x h1 => trngR 0 x h1
  | .trng3 a b c, env, h => (evalE a env h).bind fun x h1 => (evalE b env h1).bind fun y h2 => (evalE c env h2).bind fun z h3 => (rng3R x y z h3).bind fun l h4 => if l.length ≤ 16777216 then .ok (.dat (.tup l)) h4 else .bad
  | .trng2 a b, env, h => (evalE a env h).bind fun x h1 => (evalE b env h1).bind fun y h2 => trngR2 x y h2
  | .rev a, env, h => (evalE a env h).bind fun x h1 => Res.of h1 (revF h1 x)
  | .sortK f e, env, h => (evalE e env h).bind fun x h1 => match lv h1 x with
    | some ds => (keysLoop C f ds [] h1).bind fun ks h2 => Res.of h2 ((sortKF ks ds).map .new)
    | none => .bad
  | .lenSet e, env, h => (evalE e env h).bind fun x h1 => match (lv h1 x).bind intsOf with
    | some ns => if ns.length ≤ 4000 then .ok (.dat (.int (distN ns : Nat))) h1 else .bad
    | none => .bad
  | .popL o e, env, h => (evalE o env h).bind fun x h1 => match x with
    | .dat (.ref n) => match h1[n]? with
      | some (.lst _) => (evalE e env h1).bind fun y h2 => popR n y h2
      | _ => .bad
    | _ => .bad
  | .gget _ kvs e, env, h => (evalE e env h).bind fun x h1 => Res.of h1 ((ggetF kvs x).map .dat)
  | .gin _ kvs e, env, h => (evalE e env h).bind fun x h1 => Res.of h1 ((ginF kvs x).map fun b => .dat (.bl b))
  | .promo e, env, h => (evalE e env h).bind fun x h1 => match x with
    | .new l => .ok (.dat (.ref h1.length)) (h1 ++ [.lst l])
    | .dat d => .ok (.dat d) h1
    | .bor _ => .bad
def evalO : Oe → Env' → Hh → Res (Option Int)
  | .no, _, h => .ok none h
  | .part e, env, h => (evalE e env h).bind fun x h1 => match x with
    | .dat (.int i) => .ok (some i) h1
    | _ => .bad
def evalEs : Es → Env' → Hh → Res (List D)
  | .nil, _, h => .ok [] h
  | .cons e es, env, h => (evalE e env h).bind fun x h1 => match x.fz with
    | some d => (evalEs es env h1).bind fun ds h2 => .ok (d :: ds) h2
    | none => .bad
def evalI : Iter → Env' → Hh → Res (List D)
  | .seq e, env, h => (evalE e env h).bind fun x h1 => Res.of h1 (itF x)
  | .rng1 a, env, h => (evalE a env h).bind fun x h1 => match x with
    | .dat (.int j) => if rngOk j then .ok (rngL 0 j.toNat) h1 else .bad
    | _ => .bad
  | .rng2 a b, env, h => (evalE a env h).bind fun x h1 => (evalE b env h1).bind fun y h2 => match x, y with
    | .dat (.int i), .dat (.int j) => if rngOk i && rngOk j then .ok (rngL i (j - i).toNat) h2 else .bad
    | _, _ => .bad
  | .rng3 a b c, env, h => (evalE a env h).bind fun x h1 => (evalE b env h1).bind fun y h2 => (evalE c env h2).bind fun z h3 => rng3R x y z h3
  | .enum e, env, h => (evalE e env h).bind fun x h1 => Res.of h1 ((itE x).map (enumL 0))
  | .zip a b, env, h => (evalE a env h).bind fun x h1 => (evalE b env h1).bind fun y h2 => Res.of h2 (zipF x y)
  | .zipN a b, env, h => (evalE a env h).bind fun x h1 => (evalE b env h1).bind fun y h2 => Res.of h2 (zipFN x y)
  | .items _, _, _ => .bad
end

mutual
inductive S where
  | asg (i : Nat) (e : E)
  | own (i : Nat) (e : E)
  | any (i : Nat) (e : E)
  | par2 (i j : Nat) (a b : E)
  | asgs (is : List Nat) (e : E)
  | asgsL (is : List Nat) (e : E)
  | setL (o k e : E)
  | setD (o k e : E)
  | setOwn (i : Nat) (k e : E)
  | app (i : Nat) (e : E)
  | ext (i : Nat) (e : E)
  | ins (i : Nat) (k e : E)
  | expr (e : E)
  | ifs (c : E) (a b : Ss)
  | for' (t : Tg) (it : Iter) (b : Ss)
  | whl (c : E) (b : Ss)
  | ret (e : E) | retV (i : Nat) | retn
  | pass | brk | cnt
  | raise (c : Str) (es : Es)
  | frz (i : Nat) | never
inductive Ss where
  | nil | cons (s : S) (ss : Ss)
end
inductive Fl where
  | nx (env : Env') | rt (r : R) | bk (env : Env') | ct (env : Env')
/-- xs.insert(i, y) of an own list -/
def insR (l : List D) (i : Nat) (y v : R) (env : Env') (h : Hh) : Res Fl := match y, v.fz with
  | .dat (.int z), some d => if 0 ≤ z ∧ z < 2 ^ 63 ∧ l.length < sizeLine then .ok (.nx (env.set i (.own (l.take z.toNat ++ [d] ++ l.drop z.toNat)))) h else .bad
  | _, _ => .bad
/-- stored by what it is -/
def stoR (i : Nat) (env : Env') : R → Option Env'
  | .new l => some (env.set i (.own l))
  | .dat d => some (env.set i (.val d))
  | .bor _ => none
def forLoop (t : Tg) (f : Env' → Hh → Res Fl) : List D → Env' → Hh → Res Fl
  | [], env, h => .ok (.nx env) h
  | d :: ds, env, h => match t.bind env d with
    | none => .bad
    | some env1 => match f env1 h with
      | .ok (.nx env2) h2 => forLoop t f ds env2 h2
      | .ok (.ct env2) h2 => forLoop t f ds env2 h2
      | .ok (.bk env2) h2 => .ok (.nx env2) h2
      | .ok (.rt r) h2 => .ok (.rt r) h2
      | .ex x h2 => .ex x h2
      | .bad => .bad
def whlLoop (c : Env' → Hh → Res R) (f : Env' → Hh → Res Fl) : Nat → Env' → Hh → Res Fl
  | 0, _, _ => .bad
  | n + 1, env, h => match c env h with
    | .ok (.dat (.bl true)) h1 => match f env h1 with
      | .ok (.nx env2) h2 => whlLoop c f n env2 h2
      | .ok (.ct env2) h2 => whlLoop c f n env2 h2
      | .ok (.bk env2) h2 => .ok (.nx env2) h2
      | .ok (.rt r) h2 => .ok (.rt r) h2
      | .ex x h2 => .ex x h2
      | .bad => .bad
    | .ok (.dat (.bl false)) h1 => .ok (.nx env) h1
    | .ex x h1 => .ex x h1
    | _ => .bad
def whlMost : Nat := 2 ^ 40
mutual
def execS : S → Env' → Hh → Res Fl
  | .asg i e, env, h => (evalE C G e env h).bind fun x h1 => match x.fz with
    | some d => .ok (.nx (setV env i d)) h1
    | none => .bad
  | .own i e, env, h => (evalE C G e env h).bind fun x h1 => match x with
    | .new l => .ok (.nx (env.set i (.own l))) h1
    | _ => .bad
  | .any i e, env, h => (evalE C G e env h).bind fun x h1 => match x with
    | .new l => .ok (.nx (env.set i (.own l))) h1
    | .dat d => .ok (.nx (setV env i d)) h1
    | .bor _ => .bad
  | .par2 i j a b, env, h => (evalE C G a env h).bind fun x h1 => (evalE C G b env h1).bind fun y h2 => match (stoR i env x).bind fun e1 => stoR j e1 y with
    | some e2 => .ok (.nx e2) h2
    | none => .bad
  | .asgs is e, env, h => (evalE C G e env h).bind fun x h1 => match x with
    | .dat (.tup ds) => match setVs env is ds with
      | some env' => .ok (.nx env') h1
      | none => .bad
    | _ => .bad
  | .asgsL is e, env, h => (evalE C G e env h).bind fun x h1 => match lv h1 x with
    | some ds => match setVs env is ds with
      | some env' => .ok (.nx env') h1
      | none => .bad
    | none => .bad
  | .setL o k e, env, h => (evalE C G e env h).bind fun v h1 => match v.fz with
    | none => .bad
    | some d => (evalE C G o env h1).bind fun x h2 => (evalE C G k env h2).bind fun y h3 => match x, y with
      | .dat (.ref n), .dat (.int i) => match h3[n]? with
        | some (.lst l) => match ixN l.length i with
          | some j => .ok (.nx env) (h3.set n (.lst (l.set j d)))
          | none => .bad
        | _ => .bad
      | _, _ => .bad
  | .setD o k e, env, h => (evalE C G e env h).bind fun v h1 => match v.fz with
    | none => .bad
    | some d => (evalE C G o env h1).bind fun x h2 => (evalE C G k env h2).bind fun y h3 => match x, y with
      | .dat (.ref n), .dat kd => match h3[n]?, keyOf kd with
        | some (.dct l), some kk => if l.length < sizeLine then .ok (.nx env) (h3.set n (.dct (dPut l kk d))) else .bad
        | _, _ => .bad
      | _, _ => .bad
  | .setOwn i k e, env, h => (evalE C G e env h).bind fun v h1 => match v.fz with
    | none => .bad
    | some d => match env[i]? with
      | some (.own l) => (evalE C G k env h1).bind fun y h2 => match y with
        | .dat (.int z) => match ixN l.length z with
          | some j => .ok (.nx (env.set i (.own (l.set j d)))) h2
          | none => .bad
        | _ => .bad
      | _ => .bad
  | .app i e, env, h => match env[i]? with
    | some (.own l) => (evalE C G e env h).bind fun v h1 => match v.fz with
      | none => .bad
      | some d => if l.length < sizeLine then .ok (.nx (env.set i (.own (l ++ [d])))) h1 else .bad
    | _ => .bad
  | .ext i e, env, h => match env[i]? with
    | some (.own l) => (evalE C G e env h).bind fun v h1 => match svN h1 v with
      | some m => if l.length + m.length ≤ sizeLine then .ok (.nx (env.set i (.own (l ++ m)))) h1 else .bad
      | none => .bad
    | _ => .bad
  | .ins i k e, env, h => match env[i]? with
    | some (.own l) => (evalE C G k env h).bind fun y h1 => (evalE C G e env h1).bind fun v h2 => insR l i y v env h2
    | _ => .bad
  | .expr e, env, h => (evalE C G e env h).bind fun _ h1 => .ok (.nx env) h1
  | .ifs c a b, env, h => (evalE C G c env h).bind fun x h1 => match x with
    | .dat (.bl true) => execSs a env h1
    | .dat (.bl false) => execSs b env h1
    | _ => .bad
  | .for' t it b, env, h => (evalI C G it env h).bind fun ds h1 => forLoop t (fun env' h' => execSs b env' h') ds env h1
  | .whl c b, env, h => whlLoop (fun env' h' => evalE C G c env' h') (fun env' h' => execSs b env' h') whlMost env h
  | .ret e, env, h => (evalE C G e env h).bind fun x h1 => match x with
    | .bor _ => .bad
    | r => .ok (.rt r) h1
  | .retV i, env, h => match env[i]? with
    | some (.own l) => .ok (.rt (.new l)) h
    | _ => .bad
  | .retn, _, h => .ok (.rt (.dat .non)) h
  | .pass, env, h => .ok (.nx env) h
  | .brk, env, h => .ok (.bk env) h
  | .cnt, env, h => .ok (.ct env) h
  | .raise c es, env, h => (evalEs C G es env h).bind fun ds h1 => .ex ⟨c, ds⟩ h1
  | .frz i, env, h => match env[i]? with
    | some (.own l) => .ok (.nx (setV env i (.lst l))) h
    | _ => .bad
  | .never, _, _ => .bad
def execSs : Ss → Env' → Hh → Res Fl
  | .nil, env, h => .ok (.nx env) h
  | .cons s ss, env, h => match execS s env h with
    | .ok (.nx env') h' => execSs ss env' h'
    | r => r
end
end
/-- a def: how many parameters, how many names, its body -/
structure Fn where
  pars : Nat
  slots : Nat
  body : Ss
def Fn.env (f : Fn) (ds : List D) : Env' := ds.map .val ++ List.replicate (f.slots - f.pars) .un
abbrev Tab := Str → Option Fn
def runBody (C : Calls') (G : Str → Option D) (f : Fn) (ds : List D) (h : Hh) : Res R :=
  if ds.length = f.pars then
    match execSs C G f.body (f.env ds) h with
    | .ok (.rt r) h' => .ok r h'
    | .ok (.nx _) h' => .ok (.dat .non) h'
    | .ex x h' => .ex x h'
    | _ => .bad
  else .bad
/-- the defs, at most n calls within one another -/
def run (T : Tab) (G : Str → Option D) : Nat → Calls'
  | 0, _, _, _ => .bad
  | n + 1, f, ds, h => match T f with
    | some d => runBody (run T G n) G d ds h
    | none => .bad
end Mi
/-! MiExc1: an exception kept behind the suite that caught it. -/
namespace Mi
open PySem PySem.Spec PyProof.Rows L2

/-- an exception that is kept: its class, its dict -/
def XO (a : Addr) (cls : Value) (d : Option Addr) : HO := .ext fun h => ∃ oe vs, h.get? a = some oe ∧ oe.cls = cls ∧ oe.dict = d ∧ oe.data = .fields vs
section
variable {X : Cx} {pins : List (Addr × Obj)} {σ : L2.St} {H : Hp} {s : Shared} {a : Addr} {cls : Value} {d : Option Addr}
end
section
variable {X : Cx} {x n : Str} {c : Value} {i : Nat} {body suite : List Stmt} {b₀ : Stmt} {np pos pos' : Pos} {tb : WX → TS} {ts : Addr → Value → Option Addr → TS} {Wout : WX}
end
/-! ### a kept exception is asked -/
end Mi
/-! Mi2: how the small language's data lie in the layer's heap. -/
namespace Mi
open PySem PySem.Spec PyProof.Rows L2

/-- the tables of code objects that lambdas fill: the table's place, the lambda's name -/
class Tb where
  T : PySem.W.Frag → List (Addr × Str)
/-- where a class or a def of the text lies -/
def glA (K : PySem.W.Frag) (x : Str) : Option Addr := match PySem.W.nsIn K mainGlobals x with
  | some (some (.ref a)) => some a
  | _ => none
variable [Tb]
structure Cfg where
  H : Hp
  r : Nat → Addr
  F : Addr → Prop
  n : Nat
/-- a list of the written part, or one that is locked -/
def ArgL (K : PySem.W.Frag) (H : Hp) (a : Addr) (xs : List V) : Prop :=
  (∃ o, H a = some (.frz o (.lst xs))) ∨
    ∃ (o : Obj) (its : Array Value) (n : Nat), K.lookup a = some o ∧ o.cls = .type "list" ∧ o.dict = none ∧ o.data = .seq its n ∧ its.size ≤ sizeLine ∧ Vals xs its.toList
theorem ArgL.seq {K : PySem.W.Frag} {H : Hp} {a : Addr} {xs : List V} (h : ArgL K H a xs) : SqL K H a xs := by
  rcases h with ⟨o, h⟩ | h
  · exact .inl (.inr ⟨o, h⟩)
  · exact .inr h
section
variable (K : PySem.W.Frag) (c : Cfg)
mutual
def RelD : D → V → Prop
  | .non, v => v = .non
  | .bl b, v => v = .bl b
  | .int i, v => v = .int i
  | .str s, v => v = .str s
  | .tup l, v => ∃ a vs, v = .ref a ∧ SqT K c.H a vs ∧ RelDs l vs
  | .lst l, v => ∃ a vs, v = .ref a ∧ c.F a ∧ c.H a = some (.lst vs) ∧ RelDs l vs
  | .arg l, v => ∃ a vs, v = .ref a ∧ ArgL K c.H a vs ∧ RelDs l vs
  | .ref k, v => k < c.n ∧ v = .ref (c.r k)
  | .sp b x l, v => ∃ C, glA K x = some C ∧ if b = true then ∃ a d, v = .ref a ∧ c.H a = some (XO a (.ref C) d) ∧
      ((l = [] ∧ d = none) ∨ ∃ dd fs vs, d = some dd ∧ c.H dd = some (.xd fs) ∧ RelDs l vs ∧ ∀ (i : Nat) (n : Str), (fldN x)[i]? = some n → fs.lookup n = vs[i]?) else v = .ref C ∧ PySem.W.keepIn K (.ref C) = true
def RelDs : List D → List V → Prop
  | [], vs => vs = []
  | d :: l, vs => ∃ v r, vs = v :: r ∧ RelD d v ∧ RelDs l r
end
def RelKv : List (Key × D) → List (Key × V) → Prop
  | [], vs => vs = []
  | (k, d) :: l, vs => ∃ v r, vs = (k, v) :: r ∧ RelD K c d v ∧ RelKv l r
def RelO : O → Option HO → Prop
  | .lst l, o => ∃ vs, o = some (.lst vs) ∧ RelDs K c l vs
  | .dct l, o => ∃ kvs, o = some (.dK kvs) ∧ RelKv K c l kvs
def OwnL (l : List D) (v : V) : Prop := ∃ a vs, v = .ref a ∧ c.H a = some (.lst vs) ∧ ¬ c.F a ∧ (∀ k, k < c.n → c.r k ≠ a) ∧ RelDs K c l vs
def RelR : R → V → Prop
  | .dat d, v => RelD K c d v
  | .new l, v => OwnL K c l v
  | .bor l, v => OwnL K c l v
end
/-- what is new was not there -/
def Fr (H : Hp) : R → V → Prop
  | .new _, .ref a => H a = none
  | _, _ => True
/-- all tables of a heap are told, and good -/
structure TabsOk (K : PySem.W.Frag) (H : Hp) : Prop where
  good : LamX.Tabs (Tb.T K) H
  all : ∀ P ps, H P = some (.tbl ps) → ∃ q, (P, q) ∈ Tb.T K
theorem TabsOk.upd {K : PySem.W.Frag} {H : Hp} {a : Addr} {ho : HO} (t : TabsOk K H) (h1 : ∀ ps, H a ≠ some (.tbl ps)) (h2 : ∀ φ, H a ≠ some (.ext φ)) (no : ∀ ps, ho ≠ .tbl ps) : TabsOk K (upd H a ho) := by
  refine ⟨fun p hp => ?_, fun P ps e => ?_⟩
  · obtain ⟨ps, e1, e2, e3⟩ := t.good p hp
    refine ⟨ps, by rw [upd_ne (fun z => h1 ps (by rw [← z]; exact e1))]; exact e1, e2, fun pos cv hc => ?_⟩
    obtain ⟨c, q1, q2⟩ := e3 pos cv hc
    exact ⟨c, q1, by rw [upd_ne (fun z => h2 _ (by rw [← z]; exact q2))]; exact q2⟩
  · by_cases z : P = a
    · rw [z, upd_same] at e
      exact absurd (Option.some.inj e) (no ps)
    · rw [upd_ne z] at e
      exact t.all P ps e
structure WF (K : PySem.W.Frag) (c : Cfg) (h : Hh) : Prop where
  tabs : TabsOk K c.H
  sz : c.n = h.length
  obj : ∀ k o, h[k]? = some o → RelO K c o (c.H (c.r k))
  inj : ∀ j k, j < c.n → k < c.n → c.r j = c.r k → j = k
  nF : ∀ k, k < c.n → ¬ c.F (c.r k)
  fl : ∀ a, c.F a → ∃ vs, c.H a = some (.lst vs)
/-- what data lean on stays -/
structure Sta (c c' : Cfg) : Prop where
  len : c.n ≤ c'.n
  rho : ∀ k, k < c.n → c'.r k = c.r k
  fr : ∀ a, c.F a → c'.F a
  fls : ∀ a o, c.F a → c.H a = some o → c'.H a = some o
  tups : ∀ a xs, c.H a = some (.tup xs) → c'.H a = some (.tup xs)
  frzs : ∀ a o u, c.H a = some (.frz o u) → c'.H a = some (.frz o u)
  exts : ∀ a φ, c.H a = some (.ext φ) → c'.H a = some (.ext φ)
  xds : ∀ a fs, c.H a = some (.xd fs) → c'.H a = some (.xd fs)
structure Le (c c' : Cfg) : Prop extends Sta c c' where
  newF : ∀ a, c'.F a → c.F a ∨ c.H a = none
  newR : ∀ k, c.n ≤ k → k < c'.n → c.H (c'.r k) = none
  keep : ∀ a o, c.H a = some o → (∀ k, k < c.n → c.r k ≠ a) → (∀ ps, o ≠ .tbl ps) → c'.H a = some o
  stay : ∀ a, c.H a ≠ none → c'.H a ≠ none
theorem Sta.refl (c : Cfg) : Sta c c := ⟨Nat.le_refl _, fun _ _ => rfl, fun _ h => h, fun _ _ _ h => h, fun _ _ h => h, fun _ _ _ h => h, fun _ _ h => h, fun _ _ h => h⟩
theorem Le.refl (c : Cfg) : Le c c := ⟨Sta.refl c, fun _ h => .inl h, fun k h1 h2 => absurd (Nat.lt_of_lt_of_le h2 h1) (Nat.lt_irrefl _), fun _ _ h _ _ => h, fun _ h => h⟩
theorem Sta.trans {c c1 c2 : Cfg} (a : Sta c c1) (b : Sta c1 c2) : Sta c c2 :=
  ⟨Nat.le_trans a.len b.len, fun k hk => (b.rho k (Nat.lt_of_lt_of_le hk a.len)).trans (a.rho k hk), fun x h => b.fr x (a.fr x h), fun x o h1 h2 => b.fls x o (a.fr x h1) (a.fls x o h1 h2),
    fun x xs h => b.tups x xs (a.tups x xs h), fun x o u h => b.frzs x o u (a.frzs x o u h), fun x φ h => b.exts x φ (a.exts x φ h), fun x fs h => b.xds x fs (a.xds x fs h)⟩
theorem Le.trans {c c1 c2 : Cfg} (a : Le c c1) (b : Le c1 c2) : Le c c2 := by
  have back : ∀ x, c1.H x = none → c.H x = none := fun x h => Classical.byContradiction fun q => a.stay x q h
  refine ⟨a.toSta.trans b.toSta, fun x h => ?_, fun k h1 h2 => ?_, fun x o h1 h2 h3 => ?_, fun x h => b.stay x (a.stay x h)⟩
  · rcases b.newF x h with q | q
    · exact a.newF x q
    · exact .inr (back x q)
  · by_cases hk : k < c1.n
    · rw [b.rho k hk]; exact a.newR k h1 hk
    · exact back _ (b.newR k (by omega) h2)
  · refine b.keep x o (a.keep x o h1 h2 h3) (fun k hk e => ?_) h3
    by_cases hk2 : k < c.n
    · rw [a.rho k hk2] at e; exact h2 k hk2 e
    · have z := a.newR k (by omega) hk
      rw [e, h1] at z; cases z
section
variable {K : PySem.W.Frag} {c c' : Cfg}
theorem sqT_sta (st : Sta c c') {a : Addr} {xs : List V} (h : SqT K c.H a xs) : SqT K c'.H a xs := by
  rcases h with (h | ⟨o, h⟩) | h
  · exact .inl (.inl (st.tups _ _ h))
  · exact .inl (.inr ⟨o, st.frzs _ _ _ h⟩)
  · exact .inr h
theorem argL_sta (st : Sta c c') {a : Addr} {xs : List V} (h : ArgL K c.H a xs) : ArgL K c'.H a xs := by
  rcases h with ⟨o, h⟩ | h
  · exact .inl ⟨o, st.frzs _ _ _ h⟩
  · exact .inr h
mutual
theorem RelD.mono (st : Sta c c') : ∀ (d : D) (v : V), RelD K c d v → RelD K c' d v
  | .non, _, h => h
  | .bl _, _, h => h
  | .int _, _, h => h
  | .str _, _, h => h
  | .tup l, v, h => by
    unfold RelD at h ⊢
    obtain ⟨a, vs, e, h1, h2⟩ := h
    exact ⟨a, vs, e, sqT_sta st h1, RelDs.mono st l vs h2⟩
  | .lst l, v, h => by
    unfold RelD at h ⊢
    obtain ⟨a, vs, e, h0, h1, h2⟩ := h
    exact ⟨a, vs, e, st.fr _ h0, st.fls _ _ h0 h1, RelDs.mono st l vs h2⟩
  | .arg l, v, h => by
    unfold RelD at h ⊢
    obtain ⟨a, vs, e, h1, h2⟩ := h
    exact ⟨a, vs, e, argL_sta st h1, RelDs.mono st l vs h2⟩
  | .ref k, v, h => by
    unfold RelD at h ⊢
    exact ⟨Nat.lt_of_lt_of_le h.1 st.len, by rw [st.rho k h.1]; exact h.2⟩
  | .sp b x l, v, h => by
    unfold RelD at h ⊢
    obtain ⟨C, e, h⟩ := h
    refine ⟨C, e, ?_⟩
    cases b with
    | false => exact h
    | true =>
      rw [if_pos rfl] at h ⊢
      obtain ⟨a, d, e1, e2, h⟩ := h
      refine ⟨a, d, e1, st.exts _ _ e2, ?_⟩
      rcases h with h | ⟨dd, fs, vs, q1, q2, q3, q4⟩
      · exact .inl h
      · exact .inr ⟨dd, fs, vs, q1, st.xds _ _ q2, RelDs.mono st l vs q3, q4⟩
theorem RelDs.mono (st : Sta c c') : ∀ (l : List D) (vs : List V), RelDs K c l vs → RelDs K c' l vs
  | [], _, h => h
  | d :: l, vs, h => by
    unfold RelDs at h ⊢
    obtain ⟨v, r, e, h1, h2⟩ := h
    exact ⟨v, r, e, RelD.mono st d v h1, RelDs.mono st l r h2⟩
end
theorem RelKv.mono (st : Sta c c') : ∀ (l : List (Key × D)) (vs : List (Key × V)), RelKv K c l vs → RelKv K c' l vs
  | [], _, h => h
  | (k, d) :: l, vs, h => by
    unfold RelKv at h ⊢
    obtain ⟨v, r, e, h1, h2⟩ := h
    exact ⟨v, r, e, RelD.mono st d v h1, RelKv.mono st l r h2⟩
theorem RelO.mono (st : Sta c c') : ∀ (o : O) (x : Option HO), RelO K c o x → RelO K c' o x
  | .lst l, _, ⟨vs, e, h⟩ => ⟨vs, e, RelDs.mono st l vs h⟩
  | .dct l, _, ⟨vs, e, h⟩ => ⟨vs, e, RelKv.mono st l vs h⟩
theorem OwnL.mono (le : Le c c') {l : List D} {v : V} (h : OwnL K c l v) : OwnL K c' l v := by
  obtain ⟨a, vs, e, h1, h2, h3, h4⟩ := h
  refine ⟨a, vs, e, le.keep a _ h1 h3 (fun _ z => by cases z), fun q => ?_, fun k hk q => ?_, RelDs.mono le.toSta _ _ h4⟩
  · rcases le.newF a q with z | z
    · exact h2 z
    · rw [h1] at z; cases z
  · by_cases hk2 : k < c.n
    · rw [le.rho k hk2] at q; exact h3 k hk2 q
    · have z := le.newR k (by omega) hk
      rw [q, h1] at z; cases z
theorem RelR.mono (le : Le c c') : ∀ {r : R} {v : V}, RelR K c r v → RelR K c' r v
  | .dat d, v, h => RelD.mono le.toSta d v h
  | .new _, _, h => OwnL.mono le h
  | .bor _, _, h => OwnL.mono le h
theorem Fr.mono (le : Le c c') {r : R} {v : V} (h : Fr c'.H r v) : Fr c.H r v := by
  cases r with
  | dat d => exact True.intro
  | bor d => exact True.intro
  | new l =>
    cases v with
    | ref a => exact Classical.byContradiction fun q => le.stay a q h
    | _ => exact True.intro
theorem RelDs.length : ∀ {l : List D} {vs : List V}, RelDs K c l vs → l.length = vs.length
  | [], vs, h => by unfold RelDs at h; subst h; rfl
  | d :: l, vs, h => by
    unfold RelDs at h
    obtain ⟨v, r, e, _, h2⟩ := h
    subst e
    simp [RelDs.length h2]
theorem RelDs.get : ∀ {l : List D} {vs : List V} {i : Nat} {d : D}, RelDs K c l vs → l[i]? = some d → ∃ v, vs[i]? = some v ∧ RelD K c d v
  | [], _, _, _, _, h => by simp at h
  | e :: l, vs, 0, d, h, h2 => by
    unfold RelDs at h
    obtain ⟨v, r, q, h1, _⟩ := h
    subst q
    simp at h2; subst h2
    exact ⟨v, rfl, h1⟩
  | e :: l, vs, i + 1, d, h, h2 => by
    unfold RelDs at h
    obtain ⟨v, r, q, _, h3⟩ := h
    subst q
    obtain ⟨u, h4, h5⟩ := RelDs.get (i := i) h3 (by simpa using h2)
    exact ⟨u, by simpa using h4, h5⟩
theorem RelDs.append : ∀ {l m : List D} {vs us : List V}, RelDs K c l vs → RelDs K c m us → RelDs K c (l ++ m) (vs ++ us)
  | [], m, vs, us, h, h2 => by unfold RelDs at h; subst h; exact h2
  | d :: l, m, vs, us, h, h2 => by
    unfold RelDs at h
    obtain ⟨v, r, e, h1, h3⟩ := h
    subst e
    show RelDs K c (d :: (l ++ m)) (v :: (r ++ us))
    unfold RelDs
    exact ⟨v, r ++ us, rfl, h1, RelDs.append h3 h2⟩
theorem RelDs.take : ∀ {l : List D} {vs : List V} (k : Nat), RelDs K c l vs → RelDs K c (l.take k) (vs.take k)
  | _, _, 0, h => by simp [RelDs]
  | [], vs, k + 1, h => by unfold RelDs at h; subst h; simp [RelDs]
  | d :: l, vs, k + 1, h => by
    unfold RelDs at h
    obtain ⟨v, r, e, h1, h3⟩ := h
    subst e
    show RelDs K c (d :: l.take k) (v :: r.take k)
    unfold RelDs
    exact ⟨v, _, rfl, h1, RelDs.take k h3⟩
theorem RelDs.drop : ∀ {l : List D} {vs : List V} (k : Nat), RelDs K c l vs → RelDs K c (l.drop k) (vs.drop k)
  | _, _, 0, h => by simpa using h
  | [], vs, k + 1, h => by unfold RelDs at h; subst h; simp [RelDs]
  | d :: l, vs, k + 1, h => by
    unfold RelDs at h
    obtain ⟨v, r, e, h1, h3⟩ := h
    subst e
    simpa using RelDs.drop k h3
theorem RelDs.set : ∀ {l : List D} {vs : List V} (k : Nat) {d : D} {v : V}, RelDs K c l vs → RelD K c d v → RelDs K c (l.set k d) (vs.set k v)
  | [], vs, k, d, v, h, hd => by unfold RelDs at h; subst h; simp [RelDs]
  | e :: l, vs, 0, d, v, h, hd => by
    unfold RelDs at h
    obtain ⟨u, r, q, h1, h3⟩ := h
    subst q
    show RelDs K c (d :: l) (v :: r)
    unfold RelDs
    exact ⟨v, r, rfl, hd, h3⟩
  | e :: l, vs, k + 1, d, v, h, hd => by
    unfold RelDs at h
    obtain ⟨u, r, q, h1, h3⟩ := h
    subst q
    show RelDs K c (e :: l.set k d) (u :: r.set k v)
    unfold RelDs
    exact ⟨u, _, rfl, h1, RelDs.set k h3 hd⟩
theorem RelDs.nil : RelDs K c [] [] := by unfold RelDs; rfl
theorem RelDs.one {d : D} {v : V} (h : RelD K c d v) : RelDs K c [d] [v] := by
  unfold RelDs
  exact ⟨v, [], rfl, h, RelDs.nil⟩
theorem RelDs.cons {d : D} {v : V} {l : List D} {vs : List V} (h : RelD K c d v) (t : RelDs K c l vs) : RelDs K c (d :: l) (v :: vs) := by
  unfold RelDs
  exact ⟨v, vs, rfl, h, t⟩
/-- a Le from its parts -/
theorem mkLe {h : Hh} (wf : WF K c h) (len : c.n ≤ c'.n) (rho : ∀ k, k < c.n → c'.r k = c.r k) (fr : ∀ a, c.F a → c'.F a) (newF : ∀ a, c'.F a → c.F a ∨ c.H a = none)
    (newR : ∀ k, c.n ≤ k → k < c'.n → c.H (c'.r k) = none) (keep : ∀ a o, c.H a = some o → (∀ k, k < c.n → c.r k ≠ a) → c'.H a = some o) (stay : ∀ a, c.H a ≠ none → c'.H a ≠ none) : Le c c' := by
  have at_ : ∀ k, k < c.n → (∃ vs, c.H (c.r k) = some (.lst vs)) ∨ ∃ kvs, c.H (c.r k) = some (.dK kvs) := fun k hk => by
    have hk' : k < h.length := by rw [← wf.sz]; exact hk
    have q := wf.obj k _ (List.getElem?_eq_getElem hk')
    cases e : h[k] with
    | lst l => rw [e] at q; obtain ⟨vs, q, _⟩ := q; exact .inl ⟨vs, q⟩
    | dct l => rw [e] at q; obtain ⟨vs, q, _⟩ := q; exact .inr ⟨vs, q⟩
  refine ⟨⟨len, rho, fr, fun a o h1 h2 => keep a o h2 fun k hk e => wf.nF k hk (by rw [e]; exact h1), fun a xs h1 => keep a _ h1 fun k hk e => ?_, fun a o u h1 => keep a _ h1 fun k hk e => ?_, fun a φ h1 => keep a _ h1 fun k hk e => ?_, fun a fs h1 => keep a _ h1 fun k hk e => ?_⟩, newF, newR, fun a o h1 h2 _ => keep a o h1 h2, stay⟩
  · rcases at_ k hk with ⟨vs, q⟩ | ⟨vs, q⟩ <;> (rw [e, h1] at q; cases q)
  · rcases at_ k hk with ⟨vs, q⟩ | ⟨vs, q⟩ <;> (rw [e, h1] at q; cases q)
  · rcases at_ k hk with ⟨vs, q⟩ | ⟨vs, q⟩ <;> (rw [e, h1] at q; cases q)
  · rcases at_ k hk with ⟨vs, q⟩ | ⟨vs, q⟩ <;> (rw [e, h1] at q; cases q)
theorem WF.some {h : Hh} (wf : WF K c h) {k : Nat} (hk : k < c.n) : c.H (c.r k) ≠ none := fun z => by
  have hk' : k < h.length := by rw [← wf.sz]; exact hk
  have q := wf.obj k _ (List.getElem?_eq_getElem hk')
  cases e : h[k] with
  | lst l => rw [e] at q; obtain ⟨vs, q, _⟩ := q; rw [z] at q; cases q
  | dct l => rw [e] at q; obtain ⟨vs, q, _⟩ := q; rw [z] at q; cases q
/-- a new object -/
def Cfg.put (c : Cfg) (p : Addr) (o : HO) : Cfg := { c with H := upd c.H p o }
theorem put_le {h : Hh} (wf : WF K c h) {p : Addr} (hp : c.H p = none) (o : HO) : Le c (c.put p o) := by
  have ne : ∀ {a}, c.H a ≠ none → a ≠ p := fun h e => h (by rw [e]; exact hp)
  refine mkLe wf (Nat.le_refl _) (fun _ _ => rfl) (fun _ h => h) (fun _ h => .inl h) (fun k h1 h2 => absurd (Nat.lt_of_lt_of_le h2 h1) (Nat.lt_irrefl _)) (fun a o' h1 _ => ?_) (fun a h1 => ?_)
  · show upd c.H p o a = _
    rw [upd_ne (ne (by rw [h1]; simp))]; exact h1
  · show upd c.H p o a ≠ _
    rw [upd_ne (ne h1)]; exact h1
theorem put_wf {h : Hh} (wf : WF K c h) {p : Addr} (hp : c.H p = none) (o : HO) (no : ∀ ps, o ≠ .tbl ps := by intro _ z; cases z) : WF K (c.put p o) h := by
  have le := put_le wf hp o
  refine ⟨wf.tabs.upd (fun _ => by rw [hp]; exact fun z => by cases z) (fun _ => by rw [hp]; exact fun z => by cases z) no, wf.sz, fun k ob hk => ?_, wf.inj, wf.nF, fun a ha => ?_⟩
  · have hk' : k < c.n := by rw [wf.sz]; exact (List.getElem?_eq_some_iff.mp hk).1
    have e : (c.put p o).H ((c.put p o).r k) = c.H (c.r k) := by
      show upd c.H p o (c.r k) = _
      exact upd_ne fun e => wf.some hk' (by rw [e]; exact hp)
    rw [e]
    exact RelO.mono le.toSta _ _ (wf.obj k ob hk)
  · obtain ⟨vs, q⟩ := wf.fl a ha
    exact ⟨vs, le.fls a _ ha q⟩
/-- a list just made is frozen -/
def Cfg.freeze (c : Cfg) (a : Addr) : Cfg := { c with F := fun b => c.F b ∨ b = a }
theorem freeze_le {c0 : Cfg} (le : Le c0 c) {a : Addr} (h0 : c0.H a = none) : Le c0 (c.freeze a) := by
  refine ⟨⟨le.len, le.rho, fun x h => .inl (le.fr x h), le.fls, le.tups, le.frzs, le.exts, le.xds⟩, fun x h => ?_, le.newR, le.keep, le.stay⟩
  rcases h with h | h
  · exact le.newF x h
  · rw [h]; exact .inr h0
theorem freeze_sta {a : Addr} : Sta c (c.freeze a) := ⟨Nat.le_refl _, fun _ _ => rfl, fun _ h => .inl h, fun _ _ _ h => h, fun _ _ h => h, fun _ _ _ h => h, fun _ _ h => h, fun _ _ h => h⟩
theorem freeze_wf {h : Hh} (wf : WF K c h) {a : Addr} {vs : List V} (h1 : c.H a = some (.lst vs)) (h3 : ∀ k, k < c.n → c.r k ≠ a) : WF K (c.freeze a) h := by
  refine ⟨wf.tabs, wf.sz, fun k o hk => RelO.mono freeze_sta _ _ (wf.obj k o hk), wf.inj, fun k hk q => ?_, fun x hx => ?_⟩
  · rcases q with q | q
    · exact wf.nF k hk q
    · exact h3 k hk q
  · rcases hx with q | q
    · exact wf.fl x q
    · rw [q]; exact ⟨vs, h1⟩
/-- a list just made goes into the small heap -/
def Cfg.grow (c : Cfg) (a : Addr) : Cfg := { c with r := fun k => if k = c.n then a else c.r k, n := c.n + 1 }
theorem grow_r {a : Addr} {k : Nat} (hk : k < c.n) : (c.grow a).r k = c.r k := by
  show (if k = c.n then a else c.r k) = _
  rw [if_neg (by omega)]
theorem grow_n {a : Addr} : (c.grow a).r c.n = a := by
  show (if c.n = c.n then a else _) = _
  rw [if_pos rfl]
theorem grow_sta {a : Addr} : Sta c (c.grow a) := ⟨Nat.le_succ _, fun k hk => grow_r hk, fun _ h => h, fun _ _ _ h => h, fun _ _ h => h, fun _ _ _ h => h, fun _ _ h => h, fun _ _ h => h⟩
theorem grow_le {c0 : Cfg} (le : Le c0 c) {a : Addr} (h0 : c0.H a = none) : Le c0 (c.grow a) := by
  refine ⟨⟨Nat.le_succ_of_le le.len, fun k hk => (grow_r (Nat.lt_of_lt_of_le hk le.len)).trans (le.rho k hk), le.fr, le.fls, le.tups, le.frzs, le.exts, le.xds⟩, le.newF, fun k h1 h2 => ?_, le.keep, le.stay⟩
  have h2' : k < c.n + 1 := h2
  by_cases hk : k < c.n
  · rw [grow_r hk]; exact le.newR k h1 hk
  · have e : k = c.n := by omega
    rw [e, grow_n]; exact h0
theorem grow_wf {h : Hh} (wf : WF K c h) {a : Addr} {o : O} (h1 : RelO K c o (c.H a)) (h2 : ¬ c.F a) (h3 : ∀ k, k < c.n → c.r k ≠ a) : WF K (c.grow a) (h ++ [o]) := by
  refine ⟨wf.tabs, by show c.n + 1 = _; rw [List.length_append, wf.sz]; rfl, fun k ob hk => ?_, fun j k hj hk e => ?_, fun k hk => ?_, wf.fl⟩
  · by_cases hk2 : k < c.n
    · rw [grow_r hk2]
      rw [List.getElem?_append_left (by rw [← wf.sz]; exact hk2)] at hk
      exact RelO.mono grow_sta _ _ (wf.obj k ob hk)
    · have e : k = h.length := by
        have := (List.getElem?_eq_some_iff.mp hk).1
        rw [List.length_append] at this
        simp at this
        have := wf.sz
        omega
      subst e
      rw [List.getElem?_append_right (Nat.le_refl _), Nat.sub_self] at hk
      simp at hk
      subst hk
      rw [← wf.sz, grow_n]
      exact RelO.mono grow_sta _ _ h1
  · have hj' : j < c.n + 1 := hj
    have hk' : k < c.n + 1 := hk
    by_cases a1 : j < c.n
    · by_cases a2 : k < c.n
      · rw [grow_r a1, grow_r a2] at e; exact wf.inj j k a1 a2 e
      · have : k = c.n := by omega
        subst this
        rw [grow_r a1, grow_n] at e
        exact absurd e (h3 j a1)
    · have : j = c.n := by omega
      subst this
      by_cases a2 : k < c.n
      · rw [grow_n, grow_r a2] at e
        exact absurd e.symm (h3 k a2)
      · omega
  · have hk' : k < c.n + 1 := hk
    by_cases a2 : k < c.n
    · rw [grow_r a2]; exact wf.nF k a2
    · have : k = c.n := by omega
      subst this
      rw [grow_n]; exact h2
/-- an owned list is written -/
theorem own_sta {a : Addr} {vs ws : List V} (h1 : c.H a = some (.lst vs)) (h2 : ¬ c.F a) : Sta c (c.put a (.lst ws)) := by
  refine ⟨Nat.le_refl _, fun _ _ => rfl, fun _ h => h, fun x o hF hx => ?_, fun x xs hx => ?_, fun x o u hx => ?_, fun x φ hx => ?_, fun x fs hx => ?_⟩
  · show upd c.H a _ x = _
    rw [upd_ne (fun e => h2 (by rw [← e]; exact hF))]; exact hx
  · show upd c.H a _ x = _
    rw [upd_ne (fun e => by rw [e, h1] at hx; cases hx)]; exact hx
  · show upd c.H a _ x = _
    rw [upd_ne (fun e => by rw [e, h1] at hx; cases hx)]; exact hx
  · show upd c.H a _ x = _
    rw [upd_ne (fun e => by rw [e, h1] at hx; cases hx)]; exact hx
  · show upd c.H a _ x = _
    rw [upd_ne (fun e => by rw [e, h1] at hx; cases hx)]; exact hx
theorem own_le {c0 : Cfg} (le : Le c0 c) {a : Addr} {vs ws : List V} (h0 : c0.H a = none) (h1 : c.H a = some (.lst vs)) (h2 : ¬ c.F a) : Le c0 (c.put a (.lst ws)) := by
  have st := own_sta (ws := ws) h1 h2
  refine ⟨le.toSta.trans st, le.newF, le.newR, fun x o hx hr nt => ?_, fun x hx => ?_⟩
  · show upd c.H a _ x = _
    rw [upd_ne (fun e => by rw [e, h0] at hx; cases hx)]
    exact le.keep x o hx hr nt
  · show upd c.H a _ x ≠ _
    by_cases e : x = a
    · rw [e, upd_same]; simp
    · rw [upd_ne e]; exact le.stay x hx
theorem own_wf {h : Hh} (wf : WF K c h) {a : Addr} {vs ws : List V} (h1 : c.H a = some (.lst vs)) (h2 : ¬ c.F a) (h3 : ∀ k, k < c.n → c.r k ≠ a) : WF K (c.put a (.lst ws)) h := by
  have st := own_sta (ws := ws) h1 h2
  refine ⟨wf.tabs.upd (fun _ => by rw [h1]; exact fun z => by cases z) (fun _ => by rw [h1]; exact fun z => by cases z) (fun _ z => by cases z), wf.sz, fun k o hk => ?_, wf.inj, wf.nF, fun x hx => ?_⟩
  · have hk' : k < c.n := by rw [wf.sz]; exact (List.getElem?_eq_some_iff.mp hk).1
    have e : (c.put a (.lst ws)).H ((c.put a (.lst ws)).r k) = c.H (c.r k) := upd_ne (h3 k hk')
    rw [e]
    exact RelO.mono st _ _ (wf.obj k o hk)
  · obtain ⟨us, q⟩ := wf.fl x hx
    exact ⟨us, st.fls x _ hx q⟩
/-- an object of the small heap is written -/
theorem ref_sta {h : Hh} (wf : WF K c h) {k : Nat} (hk : k < c.n) (ho : HO) : Sta c (c.put (c.r k) ho) := by
  have at_ : ∀ xs, c.H (c.r k) ≠ some (.tup xs) := fun xs z => by
    have hk' : k < h.length := by rw [← wf.sz]; exact hk
    have q := wf.obj k _ (List.getElem?_eq_getElem hk')
    cases e : h[k] with
    | lst l => rw [e] at q; obtain ⟨vs, q, _⟩ := q; rw [z] at q; cases q
    | dct l => rw [e] at q; obtain ⟨vs, q, _⟩ := q; rw [z] at q; cases q
  have at2 : ∀ o u, c.H (c.r k) ≠ some (.frz o u) := fun o u z => by
    have hk' : k < h.length := by rw [← wf.sz]; exact hk
    have q := wf.obj k _ (List.getElem?_eq_getElem hk')
    cases e : h[k] with
    | lst l => rw [e] at q; obtain ⟨vs, q, _⟩ := q; rw [z] at q; cases q
    | dct l => rw [e] at q; obtain ⟨vs, q, _⟩ := q; rw [z] at q; cases q
  have at3 : ∀ φ, c.H (c.r k) ≠ some (.ext φ) := fun φ z => by
    have hk' : k < h.length := by rw [← wf.sz]; exact hk
    have q := wf.obj k _ (List.getElem?_eq_getElem hk')
    cases e : h[k] with
    | lst l => rw [e] at q; obtain ⟨vs, q, _⟩ := q; rw [z] at q; cases q
    | dct l => rw [e] at q; obtain ⟨vs, q, _⟩ := q; rw [z] at q; cases q
  have at4 : ∀ fs, c.H (c.r k) ≠ some (.xd fs) := fun fs z => by
    have hk' : k < h.length := by rw [← wf.sz]; exact hk
    have q := wf.obj k _ (List.getElem?_eq_getElem hk')
    cases e : h[k] with
    | lst l => rw [e] at q; obtain ⟨vs, q, _⟩ := q; rw [z] at q; cases q
    | dct l => rw [e] at q; obtain ⟨vs, q, _⟩ := q; rw [z] at q; cases q
  refine ⟨Nat.le_refl _, fun _ _ => rfl, fun _ h => h, fun x o hF hx => ?_, fun x xs hx => ?_, fun x o u hx => ?_, fun x φ hx => ?_, fun x fs hx => ?_⟩
  · show upd c.H _ _ x = _
    rw [upd_ne (fun e => wf.nF k hk (by rw [← e]; exact hF))]; exact hx
  · show upd c.H _ _ x = _
    rw [upd_ne (fun e => at_ xs (by rw [← e]; exact hx))]; exact hx
  · show upd c.H _ _ x = _
    rw [upd_ne (fun e => at2 o u (by rw [← e]; exact hx))]; exact hx
  · show upd c.H _ _ x = _
    rw [upd_ne (fun e => at3 φ (by rw [← e]; exact hx))]; exact hx
  · show upd c.H _ _ x = _
    rw [upd_ne (fun e => at4 fs (by rw [← e]; exact hx))]; exact hx
theorem ref_le {h : Hh} (wf : WF K c h) {k : Nat} (hk : k < c.n) (ho : HO) : Le c (c.put (c.r k) ho) := by
  refine ⟨ref_sta wf hk ho, fun _ h => .inl h, fun j h1 h2 => absurd (Nat.lt_of_lt_of_le h2 h1) (Nat.lt_irrefl _), fun a o h1 h2 _ => ?_, fun a h1 => ?_⟩
  · show upd c.H _ _ a = _
    rw [upd_ne (fun e => h2 k hk e.symm)]; exact h1
  · show upd c.H _ _ a ≠ _
    by_cases e : a = c.r k
    · rw [e, upd_same]; simp
    · rw [upd_ne e]; exact h1
theorem ref_wf {h : Hh} (wf : WF K c h) {k : Nat} (hk : k < c.n) {ho : HO} {o : O} (q : RelO K c o (some ho)) : WF K (c.put (c.r k) ho) (h.set k o) := by
  have st := ref_sta wf hk ho
  have shp : (∃ vs, c.H (c.r k) = some (.lst vs)) ∨ ∃ kvs, c.H (c.r k) = some (.dK kvs) := by
    have hk' : k < h.length := by rw [← wf.sz]; exact hk
    have q := wf.obj k _ (List.getElem?_eq_getElem hk')
    cases e : h[k] with
    | lst l => rw [e] at q; obtain ⟨vs, q, _⟩ := q; exact .inl ⟨vs, q⟩
    | dct l => rw [e] at q; obtain ⟨vs, q, _⟩ := q; exact .inr ⟨vs, q⟩
  have tb : TabsOk K (upd c.H (c.r k) ho) := wf.tabs.upd (fun ps z => by rcases shp with ⟨_, e⟩ | ⟨_, e⟩ <;> (rw [e] at z; cases z)) (fun φ z => by rcases shp with ⟨_, e⟩ | ⟨_, e⟩ <;> (rw [e] at z; cases z)) (fun ps z => by
    cases o with
    | lst l => obtain ⟨vs, q, _⟩ := q; rw [z] at q; cases q
    | dct l => obtain ⟨vs, q, _⟩ := q; rw [z] at q; cases q)
  refine ⟨tb, by rw [List.length_set]; exact wf.sz, fun j ob hj => ?_, wf.inj, wf.nF, fun x hx => ?_⟩
  · have hj' : j < c.n := by
      have := (List.getElem?_eq_some_iff.mp hj).1
      rw [List.length_set] at this
      rw [wf.sz]; exact this
    by_cases e : j = k
    · subst e
      rw [List.getElem?_set_self (by rw [← wf.sz]; exact hk)] at hj
      cases hj
      have e2 : (c.put (c.r j) ho).H ((c.put (c.r j) ho).r j) = some ho := upd_same
      rw [e2]
      exact RelO.mono st _ _ q
    · rw [List.getElem?_set_ne (Ne.symm e)] at hj
      have e2 : (c.put (c.r k) ho).H ((c.put (c.r k) ho).r j) = c.H (c.r j) := upd_ne fun z => e (wf.inj j k hj' hk z)
      rw [e2]
      exact RelO.mono st _ _ (wf.obj j ob hj)
  · obtain ⟨us, q⟩ := wf.fl x hx
    exact ⟨us, st.fls x _ hx q⟩
end

/-! ### names -/
def RelS (K : PySem.W.Frag) (He : Hp) (c : Cfg) : Slot → Option V → Prop
  | .un, _ => True
  | .val d, x => ∃ v, x = some v ∧ RelD K c d v
  | .own l, x => ∃ a, x = some (.ref a) ∧ OwnL K c l (.ref a) ∧ He a = none
structure RelEnv (K : PySem.W.Frag) (He : Hp) (c : Cfg) (env : Env') (σ : L2.St) : Prop where
  len : env.length = σ.length
  sl : ∀ (i : Nat) (s : Slot), env[i]? = some s → ∃ x : Option V, σ[i]? = some x ∧ RelS K He c s x
  ap : ∀ (i j : Nat) (l m : List D) (a : Addr), env[i]? = some (.own l) → env[j]? = some (.own m) → σ[i]? = some (some (.ref a)) → σ[j]? = some (some (.ref a)) → i = j
section
variable {K : PySem.W.Frag} {c c' : Cfg} {He : Hp} {env : Env'} {σ : L2.St}
theorem RelS.mono (le : Le c c') : ∀ {s : Slot} {x : Option V}, RelS K He c s x → RelS K He c' s x
  | .un, _, _ => True.intro
  | .val d, _, ⟨v, e, h⟩ => ⟨v, e, RelD.mono le.toSta d v h⟩
  | .own l, _, ⟨a, e, h, z⟩ => ⟨a, e, OwnL.mono le h, z⟩
theorem RelEnv.mono (le : Le c c') (h : RelEnv K He c env σ) : RelEnv K He c' env σ :=
  ⟨h.len, fun i s e => let ⟨x, e1, e2⟩ := h.sl i s e; ⟨x, e1, RelS.mono le e2⟩, h.ap⟩
/-- a slot gets data -/
theorem RelEnv.put (h : RelEnv K He c env σ) (i : Nat) {d : D} {v : V} (r : RelD K c d v) : RelEnv K He c (setV env i d) (σ.set i (some v)) := by
  refine ⟨by unfold setV; simp [h.len], fun j s e => ?_, fun j k l m a e1 e2 f1 f2 => ?_⟩
  · unfold setV at e
    by_cases hj : j = i
    · subst hj
      have hl : j < env.length := by
        have := (List.getElem?_eq_some_iff.mp e).1
        simpa using this
      rw [List.getElem?_set_self hl] at e
      cases e
      exact ⟨some v, List.getElem?_set_self (by rw [← h.len]; exact hl), v, rfl, r⟩
    · rw [List.getElem?_set_ne (Ne.symm hj)] at e
      rw [List.getElem?_set_ne (Ne.symm hj)]
      exact h.sl j s e
  · unfold setV at e1 e2
    have nj : j ≠ i := fun z => by
      subst z
      have hl : j < env.length := by
        have := (List.getElem?_eq_some_iff.mp e1).1
        simpa using this
      rw [List.getElem?_set_self hl] at e1; cases e1
    have nk : k ≠ i := fun z => by
      subst z
      have hl : k < env.length := by
        have := (List.getElem?_eq_some_iff.mp e2).1
        simpa using this
      rw [List.getElem?_set_self hl] at e2; cases e2
    rw [List.getElem?_set_ne (Ne.symm nj)] at e1 f1
    rw [List.getElem?_set_ne (Ne.symm nk)] at e2 f2
    exact h.ap j k l m a e1 e2 f1 f2
/-- a slot gets a list that nobody has -/
theorem RelEnv.putOwn (h : RelEnv K He c env σ) (i : Nat) {l : List D} {a : Addr} (r : OwnL K c l (.ref a)) (hz : He a = none) (hn : ∀ j m, j ≠ i → env[j]? = some (.own m) → σ[j]? ≠ some (some (.ref a))) :
    RelEnv K He c (env.set i (.own l)) (σ.set i (some (.ref a))) := by
  have at_ : ∀ {j : Nat} {s : Slot}, (env.set i (.own l))[j]? = some s → (j = i ∧ s = .own l ∧ i < env.length) ∨ (j ≠ i ∧ env[j]? = some s) := fun {j s} e => by
    by_cases hj : j = i
    · subst hj
      have hl : j < env.length := by
        have := (List.getElem?_eq_some_iff.mp e).1
        simpa using this
      rw [List.getElem?_set_self hl] at e
      cases e
      exact .inl ⟨rfl, rfl, hl⟩
    · rw [List.getElem?_set_ne (Ne.symm hj)] at e
      exact .inr ⟨hj, e⟩
  refine ⟨by simp [h.len], fun j s e => ?_, fun j k l' m b e1 e2 f1 f2 => ?_⟩
  · rcases at_ e with ⟨rfl, rfl, hl⟩ | ⟨hj, e⟩
    · exact ⟨some (.ref a), List.getElem?_set_self (by rw [← h.len]; exact hl), a, rfl, r, hz⟩
    · rw [List.getElem?_set_ne (Ne.symm hj)]
      exact h.sl j s e
  · rcases at_ e1 with ⟨q1, _, hl⟩ | ⟨hj, g1⟩
    · rcases at_ e2 with ⟨q2, _, _⟩ | ⟨hk, g2⟩
      · rw [q1, q2]
      · rw [q1, List.getElem?_set_self (by rw [← h.len]; exact hl)] at f1
        rw [List.getElem?_set_ne (Ne.symm hk)] at f2
        cases f1
        exact absurd f2 (hn k m hk g2)
    · rcases at_ e2 with ⟨q2, _, hl⟩ | ⟨hk, g2⟩
      · rw [q2, List.getElem?_set_self (by rw [← h.len]; exact hl)] at f2
        rw [List.getElem?_set_ne (Ne.symm hj)] at f1
        cases f2
        exact absurd f1 (hn j l' hj g1)
      · rw [List.getElem?_set_ne (Ne.symm hj)] at f1
        rw [List.getElem?_set_ne (Ne.symm hk)] at f2
        exact h.ap j k l' m b g1 g2 f1 f2
theorem RelEnv.val (h : RelEnv K He c env σ) {i : Nat} {d : D} (e : env[i]? = some (.val d)) : ∃ v, σ[i]? = some (some v) ∧ RelD K c d v := by
  obtain ⟨x, e1, v, e2, r⟩ := h.sl i _ e
  exact ⟨v, by rw [e1, e2], r⟩
theorem RelEnv.own (h : RelEnv K He c env σ) {i : Nat} {l : List D} (e : env[i]? = some (.own l)) : ∃ a, σ[i]? = some (some (.ref a)) ∧ OwnL K c l (.ref a) ∧ He a = none := by
  obtain ⟨x, e1, a, e2, r, z⟩ := h.sl i _ e
  exact ⟨a, by rw [e1, e2], r, z⟩
/-- the owned list of a slot is written -/
theorem RelEnv.write (h : RelEnv K He c env σ) {i : Nat} {l m : List D} {a : Addr} {vs ws : List V} (e : env[i]? = some (.own l)) (ea : σ[i]? = some (some (.ref a))) (h1 : c.H a = some (.lst vs)) (h2 : ¬ c.F a)
    (h3 : ∀ k, k < c.n → c.r k ≠ a) (hz : He a = none) (r : RelDs K (c.put a (.lst ws)) m ws) : RelEnv K He (c.put a (.lst ws)) (env.set i (.own m)) σ := by
  have st := own_sta (ws := ws) h1 h2
  have hl : i < env.length := (List.getElem?_eq_some_iff.mp e).1
  refine ⟨by simp [h.len], fun j s ej => ?_, fun j k l' m' b e1 e2 f1 f2 => ?_⟩
  · by_cases hj : j = i
    · subst hj
      rw [List.getElem?_set_self hl] at ej
      cases ej
      exact ⟨_, ea, a, rfl, ⟨a, ws, rfl, upd_same, h2, h3, r⟩, hz⟩
    · rw [List.getElem?_set_ne (Ne.symm hj)] at ej
      obtain ⟨x, e1, e2⟩ := h.sl j s ej
      refine ⟨x, e1, ?_⟩
      cases s with
      | un => exact True.intro
      | val d => obtain ⟨v, q1, q2⟩ := e2; exact ⟨v, q1, RelD.mono st d v q2⟩
      | own l' =>
        obtain ⟨b, q1, ⟨b', us, q2, q3, q4, q5, q6⟩, q7⟩ := e2
        cases q2
        have nb : b ≠ a := fun z => by
          subst z
          exact hj (h.ap j i l' l b ej e (by rw [e1, q1]) ea)
        exact ⟨b, q1, ⟨b, us, rfl, by show upd c.H a _ b = _; rw [upd_ne nb]; exact q3, q4, q5, RelDs.mono st _ _ q6⟩, q7⟩
  · have back : ∀ {j : Nat} {l' : List D}, (env.set i (.own m))[j]? = some (.own l') → ∃ l'', env[j]? = some (.own l'') := fun {j l'} ej => by
      by_cases hj : j = i
      · subst hj; exact ⟨l, e⟩
      · rw [List.getElem?_set_ne (Ne.symm hj)] at ej; exact ⟨l', ej⟩
    obtain ⟨_, g1⟩ := back e1
    obtain ⟨_, g2⟩ := back e2
    exact h.ap j k _ _ b g1 g2 f1 f2
theorem wipeE_length (env : Env') : ∀ vs : List Nat, (wipeE env vs).length = env.length
  | [] => rfl
  | v :: vs => by unfold wipeE; rw [List.length_set, wipeE_length env vs]
theorem wipeE_some {i : Nat} {s : Slot} : ∀ {vs : List Nat}, (wipeE env vs)[i]? = some s → s = .un ∨ (env[i]? = some s ∧ i ∉ vs)
  | [], h => .inr ⟨h, by simp⟩
  | v :: vs, h => by
    unfold wipeE at h
    by_cases hi : i = v
    · subst hi
      by_cases hv : i < (wipeE env vs).length
      · rw [List.getElem?_set_self hv] at h; cases h; exact .inl rfl
      · rw [List.getElem?_eq_none (by simpa using hv)] at h; cases h
    · rw [List.getElem?_set_ne (Ne.symm hi)] at h
      rcases wipeE_some h with h | ⟨h1, h2⟩
      · exact .inl h
      · exact .inr ⟨h1, by simp only [List.mem_cons, not_or]; exact ⟨hi, h2⟩⟩
theorem wipe_at {σ : L2.St} {i : Nat} : ∀ {vs : List Nat}, i ∉ vs → (wipe σ vs)[i]? = σ[i]?
  | [], _ => rfl
  | v :: vs, h => by
    simp only [List.mem_cons, not_or] at h
    unfold wipe
    rw [List.getElem?_set_ne (Ne.symm h.1)]
    exact wipe_at h.2
theorem RelEnv.wipe (h : RelEnv K He c env σ) (vs : List Nat) : RelEnv K He c (wipeE env vs) (wipe σ vs) := by
  refine ⟨by rw [wipeE_length, wipe_length]; exact h.len, fun i s e => ?_, fun i j l m a e1 e2 f1 f2 => ?_⟩
  · rcases wipeE_some e with rfl | ⟨e', hi⟩
    · have hl : i < (L2.wipe σ vs).length := by
        have := (List.getElem?_eq_some_iff.mp e).1
        rw [wipeE_length] at this
        rw [wipe_length, ← h.len]; exact this
      exact ⟨_, List.getElem?_eq_getElem hl, True.intro⟩
    · obtain ⟨x, e1, e2⟩ := h.sl i s e'
      exact ⟨x, by rw [wipe_at hi]; exact e1, e2⟩
  · rcases wipeE_some e1 with q | ⟨e1, hi⟩
    · cases q
    · rcases wipeE_some e2 with q | ⟨e2, hj⟩
      · cases q
      · rw [wipe_at hi] at f1
        rw [wipe_at hj] at f2
        exact h.ap i j l m a e1 e2 f1 f2
end

/-! ### what an answer must bring -/
abbrev EWish := Exc → Cfg → Hh → Prop
def Post {α β : Type} (K : PySem.W.Frag) (EW : EWish) (c : Cfg) (Rl : Cfg → α → β → Prop) (Q : β → Hp → Prop) : Res α → Prop
  | .bad => False
  | .ok a h' => ∀ c' v, Le c c' → WF K c' h' → Rl c' a v → Q v c'.H
  | .ex x h' => ∀ c', Le c c' → WF K c' h' → EW x c' h'
section
variable {K : PySem.W.Frag} {EW : EWish} {c c1 : Cfg} {α β γ δ : Type} {Rl : Cfg → α → β → Prop} {Q : β → Hp → Prop}
theorem Post.lift {Rl' : Cfg → α → β → Prop} {res : Res α} (le : Le c c1) (hr : ∀ c' a v, Rl' c' a v → Rl c' a v) (p : Post K EW c Rl Q res) : Post K EW c1 Rl' Q res := by
  cases res with
  | bad => exact p
  | ok a h => exact fun c' v l w r => p c' v (le.trans l) w (hr _ _ _ r)
  | ex x h => exact fun c' l w => p c' (le.trans l) w
theorem Post.bind {res : Res γ} {f : γ → Hh → Res α} {Rl1 : Cfg → γ → δ → Prop} {Q1 : δ → Hp → Prop} (p : Post K EW c Rl Q (res.bind f))
    (k : ∀ a h1 c1 v1, Le c c1 → WF K c1 h1 → Rl1 c1 a v1 → Post K EW c Rl Q (f a h1) → Q1 v1 c1.H) : Post K EW c Rl1 Q1 res := by
  cases res with
  | bad => exact p
  | ok a h => exact fun c1 v l w r => k a h c1 v l w r p
  | ex x h => exact p
end
section
variable {K : PySem.W.Frag} {EW : EWish} {c c0 : Cfg} {α β γ δ : Type} {Rl : Cfg → α → β → Prop} {Q : β → Hp → Prop}
theorem Post.bind2 {res : Res γ} {f : γ → Hh → Res α} {Rl1 : Cfg → γ → δ → Prop} {Q1 : δ → Hp → Prop} (p : Post K EW c Rl Q (res.bind f)) (le : Le c c0)
    (k : ∀ a h1 c1 v1, Le c0 c1 → WF K c1 h1 → Rl1 c1 a v1 → Post K EW c Rl Q (f a h1) → Q1 v1 c1.H) : Post K EW c0 Rl1 Q1 res := by
  cases res with
  | bad => exact p
  | ok a h => exact fun c1 v l w r => k a h c1 v l w r p
  | ex x h => exact fun c1 l w => p c1 (le.trans l) w
end
/-- an expression's relation: what is made is new since c0 -/
def RE (K : PySem.W.Frag) (c0 : Cfg) : Cfg → R → V → Prop := fun c r v => RelR K c r v ∧ Fr c0.H r v
abbrev PostE (K : PySem.W.Frag) (EW : EWish) (c : Cfg) (Q : VK) (res : Res R) : Prop := Post K EW c (RE K c) Q res
theorem PostE.lift {K : PySem.W.Frag} {EW : EWish} {c c1 : Cfg} {Q : VK} {res : Res R} (le : Le c c1) (p : PostE K EW c Q res) : PostE K EW c1 Q res :=
  Post.lift le (fun _ _ _ h => ⟨h.1, Fr.mono le h.2⟩) p
end Mi
/-! Mi3: the machine does what the evaluator says: expressions. -/
namespace Mi
open PySem PySem.Spec PyProof.Rows L2
variable [Tb]

/-- the names of the top that hold data -/
def Glob (K : PySem.W.Frag) (mg : Str → Option Value) (G : Str → Option D) : Prop :=
  ∀ x d, G x = some d → ∃ v u, mg x = some u ∧ RelV v u ∧ ∀ c, RelD K c d v
section
variable (K : PySem.W.Frag) (EW : EWish) (C : Calls') (G : Str → Option D)
def tE (e : E) : TE := fun σ H Q => ∃ (He : Hp) (c : Cfg) (h : Hh) (env : Env'), c.H = H ∧ WF K c h ∧ RelEnv K He c env σ ∧ PostE K EW c Q (evalE C G e env h)
def tT (e : E) : TT := tB (tE K EW C G e)
def RA (K : PySem.W.Frag) : Cfg → List D → List V → Prop := fun c ds vs => RelDs K c ds vs
def tA (es : Es) : TA := fun σ H Q => ∃ (He : Hp) (c : Cfg) (h : Hh) (env : Env'), c.H = H ∧ WF K c h ∧ RelEnv K He c env σ ∧ Post K EW c (RA K) Q (evalEs C G es env h)
def RO : Cfg → Option Int → Option Int → Prop := fun _ x y => x = y
def tO (e : Oe) : TO := fun σ H Q => ∃ (He : Hp) (c : Cfg) (h : Hh) (env : Env'), c.H = H ∧ WF K c h ∧ RelEnv K He c env σ ∧ Post K EW c RO Q (evalO C G e env h)
end
theorem _root_.L2.PE.imp {X : Cx} {e : Expr} {t t' : TE} (h : PE X e t) (k : ∀ σ H Q, t' σ H Q → t σ H Q) : PE X e t' := ⟨fun pins s σ H Q I w => h.run pins s σ H Q I (k σ H Q w)⟩
theorem _root_.L2.PT.imp {X : Cx} {e : Expr} {t t' : TT} (h : PT X e t) (k : ∀ σ H Q, t' σ H Q → t σ H Q) : PT X e t' := ⟨fun pins s σ H Q I w => h.run pins s σ H Q I (k σ H Q w)⟩
theorem _root_.L2.PW.imp {X : Cx} {e : Expr} {t t' : TT} (h : PW X e t) (k : ∀ σ H Q, t' σ H Q → t σ H Q) : PW X e t' := ⟨fun wh pins s σ H Q I w => h.run wh pins s σ H Q I (k σ H Q w)⟩
theorem _root_.L2.PA.imp {X : Cx} {es : List Expr} {t t' : TA} (h : PA X es t) (k : ∀ σ H Q, t' σ H Q → t σ H Q) : PA X es t' := ⟨fun pos pins s σ H Q I w => h.run pos pins s σ H Q I (k σ H Q w)⟩
theorem _root_.L2.PO.imp {X : Cx} {e : Option Expr} {t t' : TO} (h : PO X e t) (k : ∀ σ H Q, t' σ H Q → t σ H Q) : PO X e t' := ⟨fun pins s σ H Q I w => h.run pins s σ H Q I (k σ H Q w)⟩
theorem _root_.L2.PI.imp {X : Cx} {tg e : Expr} {t t' : TI} (h : PI X tg e t) (k : ∀ σ H Q, t' σ H Q → t σ H Q) : PI X tg e t' := ⟨fun pins s σ H Q I w => h.run pins s σ H Q I (k σ H Q w)⟩
theorem _root_.L2.PS.imp {X : Cx} {e : Stmt} {t t' : TS} (h : PS X e t) (k : ∀ D σ H, t' D σ H → t D σ H) : PS X e t' := ⟨fun pins s σ H D I w => h.run pins s σ H D I (k D σ H w)⟩
theorem _root_.L2.PSs.imp {X : Cx} {e : List Stmt} {t t' : TS} (h : PSs X e t) (k : ∀ D σ H, t' D σ H → t D σ H) : PSs X e t' := ⟨fun pins s σ H D I w => h.run pins s σ H D I (k D σ H w)⟩

section
variable {K : PySem.W.Frag} {EW : EWish} {c : Cfg} {h : Hh} {Q : VK}
/-- nothing changed: the answer is data that is there -/
theorem PostE.here {r : R} {v : V} (wf : WF K c h) (p : PostE K EW c Q (.ok r h)) (hr : RelR K c r v) (hf : Fr c.H r v := by exact True.intro) : Q v c.H := p c v (Le.refl c) wf ⟨hr, hf⟩
theorem PostE.newL {l : List D} {vs : List V} {p : Addr} (wf : WF K c h) (hp : c.H p = none) (hr : RelDs K c l vs) (q : PostE K EW c Q (.ok (.new l) h)) : Q (.ref p) (upd c.H p (.lst vs)) := by
  have le := put_le wf hp (.lst vs)
  refine q (c.put p (.lst vs)) (.ref p) le (put_wf wf hp _) ⟨⟨p, vs, rfl, upd_same, fun z => ?_, fun k hk z => ?_, RelDs.mono le.toSta _ _ hr⟩, hp⟩
  · obtain ⟨us, e⟩ := wf.fl p z
    rw [hp] at e; cases e
  · exact wf.some hk (by rw [← hp, ← z]; rfl)
theorem PostE.newT {l : List D} {vs : List V} {p : Addr} (wf : WF K c h) (hp : c.H p = none) (hr : RelDs K c l vs) (q : PostE K EW c Q (.ok (.dat (.tup l)) h)) : Q (.ref p) (upd c.H p (.tup vs)) := by
  have le := put_le wf hp (.tup vs)
  refine q (c.put p (.tup vs)) (.ref p) le (put_wf wf hp _) ⟨?_, True.intro⟩
  show RelD K _ (.tup l) _
  unfold RelD
  exact ⟨p, vs, rfl, .inl (.inl upd_same), RelDs.mono le.toSta _ _ hr⟩
/-- an answer is frozen where it is kept -/
theorem freeze_ans {c0 : Cfg} {r : R} {d : D} {v : V} (le : Le c0 c) (wf : WF K c h) (hr : RE K c0 c r v) (e : r.fz = some d) : ∃ c', c'.H = c.H ∧ Le c0 c' ∧ Sta c c' ∧ WF K c' h ∧ RelD K c' d v := by
  obtain ⟨h1, h2⟩ := hr
  cases r with
  | dat d' => cases e; exact ⟨c, rfl, le, Sta.refl c, wf, h1⟩
  | bor l => cases e
  | new l =>
    cases e
    obtain ⟨a, vs, rfl, g1, g2, g3, g4⟩ := h1
    refine ⟨c.freeze a, rfl, freeze_le le h2, freeze_sta, freeze_wf wf g1 g3, ?_⟩
    unfold RelD
    exact ⟨a, vs, rfl, .inr rfl, g1, RelDs.mono freeze_sta _ _ g4⟩
/-- seen as a list -/
theorem lv_rel {r : R} {l : List D} {v : V} (wf : WF K c h) (hr : RelR K c r v) (e : lv h r = some l) : ∃ a vs, v = .ref a ∧ c.H a = some (.lst vs) ∧ RelDs K c l vs := by
  unfold lv at e
  split at e
  · cases e
    have hr' : RelD K c (.lst l) v := hr
    unfold RelD at hr'
    obtain ⟨a, vs, e1, _, e2, e3⟩ := hr'
    exact ⟨a, vs, e1, e2, e3⟩
  · cases e
    obtain ⟨a, vs, e1, e2, _, _, e3⟩ := hr
    exact ⟨a, vs, e1, e2, e3⟩
  · cases e
    obtain ⟨a, vs, e1, e2, _, _, e3⟩ := hr
    exact ⟨a, vs, e1, e2, e3⟩
  · rename_i n
    split at e
    · rename_i l' hl
      cases e
      have hr' : RelD K c (.ref n) v := hr
      unfold RelD at hr'
      obtain ⟨vs, e1, e2⟩ := wf.obj n _ hl
      exact ⟨_, vs, hr'.2, e1, e2⟩
    · cases e
  · cases e
/-- seen as a list or a tuple -/
theorem sv_rel {r : R} {l : List D} {v : V} (wf : WF K c h) (hr : RelR K c r v) (e : sv h r = some l) : ∃ a vs, v = .ref a ∧ (SqL K c.H a vs ∨ SqT K c.H a vs) ∧ RelDs K c l vs := by
  unfold sv at e
  split at e
  · cases e
    have hr' : RelD K c (.tup l) v := hr
    unfold RelD at hr'
    obtain ⟨a, vs, e1, e2, e3⟩ := hr'
    exact ⟨a, vs, e1, .inr e2, e3⟩
  · cases e
    have hr' : RelD K c (.arg l) v := hr
    unfold RelD at hr'
    obtain ⟨a, vs, e1, e2, e3⟩ := hr'
    exact ⟨a, vs, e1, .inl e2.seq, e3⟩
  · obtain ⟨a, vs, e1, e2, e3⟩ := lv_rel wf hr e
    exact ⟨a, vs, e1, .inl (.inl (.inl e2)), e3⟩
end

section
variable {X : Cx} {EW : EWish} {C : Calls'} {G : Str → Option D}
/-! ### leaves -/
theorem sim_var (i : Nat) {x : Str} {pos : Pos} (hN : X.N[i]? = some x := by rfl) (hv : Vis X.env.scope x := by first | exact Or.inl rfl | exact Or.inr (Or.inl rfl) | exact Or.inr (Or.inr rfl)) (hd : (x == ("__debug__" : Str)) = false := by decide)
    (hcd : (x == ("__classdict__" : Str)) = false := by decide) : PE X (.Name x pos) (tE X.K EW C G (.var i)) := by
  refine (pe_var hN hv hd hcd).imp fun σ H Q w => ?_
  obtain ⟨He, c, h, env, rfl, wf, re, p⟩ := w
  unfold evalE at p
  split at p
  · rename_i d e
    obtain ⟨v, e1, r⟩ := re.val e
    exact ⟨v, e1, PostE.here wf p r⟩
  · rename_i l e
    obtain ⟨a, e1, r, _⟩ := re.own e
    exact ⟨_, e1, PostE.here wf p r⟩
  · exact False.elim p
theorem con_red {d : D} {v : V} (r : ∀ c, RelD X.K c d v) : ∀ σ H Q, tE X.K EW C G (.con d) σ H Q → tC v σ H Q := fun σ H Q w => by
  obtain ⟨He, c, h, env, rfl, wf, re, p⟩ := w
  unfold evalE at p
  exact PostE.here wf p (r c)
theorem sim_int {i j pos} : PE X (.Constant (.int i) j pos) (tE X.K EW C G (.con (.int i))) := pe_int.imp (con_red fun _ => by unfold RelD; rfl)
theorem sim_bl {i j pos} : PE X (.Constant (.bool i) j pos) (tE X.K EW C G (.con (.bl i))) := pe_bl.imp (con_red fun _ => by unfold RelD; rfl)
theorem sim_str {i j pos} : PE X (.Constant (.str i) j pos) (tE X.K EW C G (.con (.str i))) := pe_str.imp (con_red fun _ => by unfold RelD; rfl)
theorem sim_non {j pos} : PE X (.Constant .none j pos) (tE X.K EW C G (.con .non)) := pe_non.imp (con_red fun _ => by unfold RelD; rfl)
theorem sim_glo (gl : Glob X.K X.mg G) {x : Str} {pos : Pos} (hg : Gl X x := by rfl) (hd : (x == ("__debug__" : Str)) = false := by decide) : PE X (.Name x pos) (tE X.K EW C G (.glo x)) := by
  cases e : G x with
  | none =>
    refine ⟨fun pins s σ H Q I w => ?_⟩
    obtain ⟨He, c, h, env, rfl, wf, re, p⟩ := w
    unfold evalE at p
    rw [e] at p
    exact False.elim p
  | some d =>
    obtain ⟨v, u, hm, r, rr⟩ := gl x d e
    refine (pe_glob hg hm r hd).imp fun σ H Q w => ?_
    obtain ⟨He, c, h, env, rfl, wf, re, p⟩ := w
    unfold evalE at p
    rw [e] at p
    exact PostE.here wf p (rr c)
/-! ### two parts -/
theorem two_red {a b : E} {f : Hh → R → R → Option R} {e : E} (he : ∀ env h, evalE C G e env h = (evalE C G a env h).bind fun x h1 => (evalE C G b env h1).bind fun y h2 => Res.of h2 (f h2 x y)) {r : R2}
    (prim : ∀ (c : Cfg) (h : Hh) (x y : R) (u v : V) (Q : VK), WF X.K c h → RelR X.K c x u → RelR X.K c y v → PostE X.K EW c Q (Res.of h (f h x y)) → r u v c.H Q) :
    ∀ σ H Q, tE X.K EW C G e σ H Q → tOp r (tE X.K EW C G a) (tE X.K EW C G b) σ H Q := fun σ H Q w => by
  obtain ⟨He, c, h, env, rfl, wf, re, p⟩ := w
  rw [he] at p
  refine ⟨He, c, h, env, rfl, wf, re, p.bind fun x h1 c1 u le1 wf1 r1 p1 => ?_⟩
  have p1 := PostE.lift le1 p1
  refine ⟨He, c1, h1, env, rfl, wf1, re.mono le1, p1.bind fun y h2 c2 v le2 wf2 r2 p2 => ?_⟩
  exact prim c2 h2 x y u v Q wf2 (RelR.mono le2 r1.1) r2.1 (PostE.lift le2 p2)
theorem one_red {a : E} {f : Hh → R → Option R} {e : E} (he : ∀ env h, evalE C G e env h = (evalE C G a env h).bind fun x h1 => Res.of h1 (f h1 x)) {r : V → Hp → VK → Prop}
    (prim : ∀ (c : Cfg) (h : Hh) (x : R) (u : V) (Q : VK), WF X.K c h → RelR X.K c x u → PostE X.K EW c Q (Res.of h (f h x)) → r u c.H Q) :
    ∀ σ H Q, tE X.K EW C G e σ H Q → tUn r (tE X.K EW C G a) σ H Q := fun σ H Q w => by
  obtain ⟨He, c, h, env, rfl, wf, re, p⟩ := w
  rw [he] at p
  refine ⟨He, c, h, env, rfl, wf, re, p.bind fun x h1 c1 u le1 wf1 r1 p1 => ?_⟩
  exact prim c1 h1 x u Q wf1 r1.1 (PostE.lift le1 p1)
/-! ### + - * // % ** -/
def rAddM (K : PySem.W.Frag) : R2 := fun x y H Q => rI0 (fun i j => .int (i + j)) x y H Q ∨ ((∃ i j, x = .str i ∧ y = .str j ∧ i.length + j.length ≤ sizeLine ∧ Q (.str (i ++ j)) H) ∨ (rCatA K x y H Q ∨ rCat x y H Q))
theorem op_addM : OpR X (binaryOp .Add) (rAddM X.K) := op_add.or (op_add_str.or (op_catA.or op_cat))
theorem prim_add (c : Cfg) (h : Hh) (x y : R) (u v : V) (Q : VK) (wf : WF X.K c h) (r1 : RelR X.K c x u) (r2 : RelR X.K c y v) (p : PostE X.K EW c Q (Res.of h (addF h x y))) : rAddM X.K u v c.H Q := by
  unfold addF at p
  split at p
  · rename_i i j
    refine .inl ⟨i, j, r1, r2, PostE.here wf p ?_⟩
    show RelD X.K c (.int (i + j)) _
    unfold RelD; rfl
  · rename_i a b
    split at p
    · rename_i hz
      refine .inr (.inl ⟨a, b, r1, r2, hz, PostE.here wf p ?_⟩)
      show RelD X.K c (.str (a ++ b)) _
      unfold RelD; rfl
    · exact False.elim p
  · rename_i a b
    split at p
    · rename_i hz
      have q1 : RelD X.K c (.tup a) u := r1
      have q2 : RelD X.K c (.tup b) v := r2
      unfold RelD at q1 q2
      obtain ⟨p1, xs, rfl, s1, t1⟩ := q1
      obtain ⟨p2, ys, rfl, s2, t2⟩ := q2
      have l1 := t1.length
      have l2 := t2.length
      refine .inr (.inr (.inl ⟨p1, p2, xs, ys, rfl, rfl, s1, s2, by omega, fun e => ?_, fun _ e => ?_, fun _ _ p hp => ?_⟩))
      · subst e
        have : a = [] := List.eq_nil_of_length_eq_zero (by simpa using l1)
        subst this
        exact PostE.here wf p r2
      · subst e
        have : b = [] := List.eq_nil_of_length_eq_zero (by simpa using l2)
        subst this
        rw [List.append_nil] at p
        exact PostE.here wf p r1
      · exact PostE.newT wf hp (t1.append t2) (by assumption)
    · exact False.elim p
  · split at p
    · rename_i a b e1 e2
      split at p
      · rename_i hz
        obtain ⟨p1, xs, rfl, s1, t1⟩ := lv_rel wf r1 e1
        obtain ⟨p2, ys, rfl, s2, t2⟩ := lv_rel wf r2 e2
        have l1 := t1.length
        have l2 := t2.length
        exact .inr (.inr (.inr ⟨p1, p2, xs, ys, rfl, rfl, s1, s2, by omega, fun p hp => PostE.newL wf hp (t1.append t2) (by assumption)⟩))
      · exact False.elim p
    · exact False.elim p
theorem sim_add {a b : Expr} {ma mb : E} {pos : Pos} (ha : PE X a (tE X.K EW C G ma)) (hb : PE X b (tE X.K EW C G mb)) : PE X (.BinOp a .Add b pos) (tE X.K EW C G (.bin .add ma mb)) :=
  (pe_op op_addM ha hb).imp (two_red (f := fun h => binF h .add) (fun _ _ => by conv => lhs; unfold evalE) prim_add)
theorem twoI_ {f : Int → Int → Option D} {c : Cfg} {h : Hh} {x y : R} {u v : V} {Q : VK} (wf : WF X.K c h) (r1 : RelR X.K c x u) (r2 : RelR X.K c y v) (p : PostE X.K EW c Q (Res.of h (twoI f x y))) :
    ∃ i j d, u = .int i ∧ v = .int j ∧ f i j = some d ∧ PostE X.K EW c Q (.ok (.dat d) h) := by
  unfold twoI at p
  split at p
  · rename_i i j
    cases e : f i j with
    | none => rw [e] at p; exact False.elim p
    | some d => rw [e] at p; exact ⟨i, j, d, r1, r2, e, p⟩
  · exact False.elim p
theorem relInt {c : Cfg} {i : Int} : RelR X.K c (.dat (.int i)) (.int i) := by
  show RelD X.K c (.int i) _
  unfold RelD; rfl
theorem relBl {c : Cfg} {i : Bool} : RelR X.K c (.dat (.bl i)) (.bl i) := by
  show RelD X.K c (.bl i) _
  unfold RelD; rfl
theorem relStr {c : Cfg} {i : Str} : RelR X.K c (.dat (.str i)) (.str i) := by
  show RelD X.K c (.str i) _
  unfold RelD; rfl
theorem sim_sub {a b : Expr} {ma mb : E} {pos : Pos} (ha : PE X a (tE X.K EW C G ma)) (hb : PE X b (tE X.K EW C G mb)) : PE X (.BinOp a .Sub b pos) (tE X.K EW C G (.bin .sub ma mb)) :=
  (pe_op op_sub ha hb).imp (two_red (f := fun h => binF h .sub) (fun _ _ => by conv => lhs; unfold evalE) fun c h x y u v Q wf r1 r2 p => by
    obtain ⟨i, j, d, rfl, rfl, e, p⟩ := twoI_ wf r1 r2 p
    cases e
    exact ⟨i, j, rfl, rfl, PostE.here wf p relInt⟩)
theorem RelDs.rep {c : Cfg} {l : List D} {vs : List V} (h : RelDs X.K c l vs) : ∀ n : Nat, RelDs X.K c (List.replicate n l).flatten (List.replicate n vs).flatten
  | 0 => by simpa using RelDs.nil
  | n + 1 => by
    rw [List.replicate_succ, List.replicate_succ, List.flatten_cons, List.flatten_cons]
    exact h.append (RelDs.rep h n)
def rMulM (K : PySem.W.Frag) : R2 := fun x y H Q => rI CMul (fun i j => .int (i * j)) x y H Q ∨ (rMulS x y H Q ∨ (rRepA K x y H Q ∨ rRep x y H Q))
theorem op_mulM : OpR X (binaryOp .Mult) (rMulM X.K) := op_mul.or (op_mulS.or (op_repA.or op_rep))
theorem prim_mul (c : Cfg) (h : Hh) (x y : R) (u v : V) (Q : VK) (wf : WF X.K c h) (r1 : RelR X.K c x u) (r2 : RelR X.K c y v) (p : PostE X.K EW c Q (Res.of h (mulF h x y))) : rMulM X.K u v c.H Q := by
  unfold mulF at p
  split at p
  · rename_i i j
    cases e : mulI i j with
    | none => rw [e] at p; exact False.elim p
    | some d =>
      rw [e] at p
      unfold mulI near at e
      split at e
      · rename_i hz
        cases e
        simp only [Bool.or_eq_true, Bool.and_eq_true, decide_eq_true_eq] at hz
        exact .inl ⟨i, j, r1, r2, hz, PostE.here wf p relInt⟩
      · cases e
  · rename_i a k
    split at p
    · rename_i hz
      exact .inr (.inl ⟨a, k, r1, r2, hz.1, hz.2.1, hz.2.2, PostE.here wf p relStr⟩)
    · exact False.elim p
  · rename_i a k
    split at p
    · rename_i hz
      have q1 : RelD X.K c (.tup a) u := r1
      unfold RelD at q1
      obtain ⟨p1, xs, rfl, s1, t1⟩ := q1
      have l1 := t1.length
      refine .inr (.inr (.inl ⟨p1, k, xs, rfl, r2, s1, hz.1, hz.2.1, by rw [← l1]; exact hz.2.2, fun e => ?_, fun _ q hq => PostE.newT wf hq (RelDs.rep t1 _) p⟩))
      have e2 : (List.replicate k.toNat a).flatten = a := by
        rcases e with e | e
        · subst e
          have : a = [] := List.eq_nil_of_length_eq_zero (by simpa using l1)
          subst this
          simp
        · subst e
          simp
      rw [e2] at p
      exact PostE.here wf p r1
    · exact False.elim p
  · rename_i k _ _ _
    split at p
    · rename_i l e
      split at p
      · rename_i hz
        obtain ⟨a, vs, rfl, g1, g2⟩ := lv_rel wf r1 e
        exact .inr (.inr (.inr ⟨a, k, vs, rfl, r2, g1, hz.1, hz.2.1, by rw [← RelDs.length g2]; exact hz.2.2, fun q hq => PostE.newL wf hq (RelDs.rep g2 _) p⟩))
      · exact False.elim p
    · exact False.elim p
  · exact False.elim p
theorem sim_mul {a b : Expr} {ma mb : E} {pos : Pos} (ha : PE X a (tE X.K EW C G ma)) (hb : PE X b (tE X.K EW C G mb)) : PE X (.BinOp a .Mult b pos) (tE X.K EW C G (.bin .mul ma mb)) :=
  (pe_op op_mulM ha hb).imp (two_red (f := fun h => binF h .mul) (fun _ _ => by conv => lhs; unfold evalE) prim_mul)
theorem sim_fdiv {a b : Expr} {ma mb : E} {pos : Pos} (ha : PE X a (tE X.K EW C G ma)) (hb : PE X b (tE X.K EW C G mb)) : PE X (.BinOp a .FloorDiv b pos) (tE X.K EW C G (.bin .fdiv ma mb)) :=
  (pe_op op_fdivN ha hb).imp (two_red (f := fun h => binF h .fdiv) (fun _ _ => by conv => lhs; unfold evalE) fun c h x y u v Q wf r1 r2 p => by
    obtain ⟨i, j, d, rfl, rfl, e, p⟩ := twoI_ wf r1 r2 p
    unfold fdivI at e
    split at e
    · rename_i hz
      cases e
      exact ⟨i, j, rfl, rfl, hz, PostE.here wf p relInt⟩
    · cases e)
theorem sim_mod {a b : Expr} {ma mb : E} {pos : Pos} (ha : PE X a (tE X.K EW C G ma)) (hb : PE X b (tE X.K EW C G mb)) : PE X (.BinOp a .Mod b pos) (tE X.K EW C G (.bin .mod ma mb)) :=
  (pe_op op_modN ha hb).imp (two_red (f := fun h => binF h .mod) (fun _ _ => by conv => lhs; unfold evalE) fun c h x y u v Q wf r1 r2 p => by
    obtain ⟨i, j, d, rfl, rfl, e, p⟩ := twoI_ wf r1 r2 p
    unfold modI at e
    split at e
    · rename_i hz
      cases e
      exact ⟨i, j, rfl, rfl, hz, PostE.here wf p relInt⟩
    · cases e)
theorem sim_pow {a b : Expr} {ma mb : E} {pos : Pos} (ha : PE X a (tE X.K EW C G ma)) (hb : PE X b (tE X.K EW C G mb)) : PE X (.BinOp a .Pow b pos) (tE X.K EW C G (.bin .pow ma mb)) :=
  (pe_op op_pow ha hb).imp (two_red (f := fun h => binF h .pow) (fun _ _ => by conv => lhs; unfold evalE) fun c h x y u v Q wf r1 r2 p => by
    obtain ⟨i, j, d, rfl, rfl, e, p⟩ := twoI_ wf r1 r2 p
    unfold powI at e
    split at e
    · rename_i hz
      cases e
      exact ⟨i, j, rfl, rfl, hz, PostE.here wf p relInt⟩
    · cases e)
theorem sim_neg {a : Expr} {ma : E} {pos : Pos} (ha : PE X a (tE X.K EW C G ma)) : PE X (.UnaryOp .USub a pos) (tE X.K EW C G (.neg ma)) :=
  (pe_un un_neg ha).imp (one_red (f := fun _ => negF) (fun env h => by conv => lhs; unfold evalE) fun c h x u Q wf r1 p => by
    unfold negF at p
    split at p
    · rename_i i
      exact ⟨i, r1, PostE.here wf p relInt⟩
    · exact False.elim p)
/-! ### comparisons -/
mutual
theorem dp_of {K : PySem.W.Frag} {c : Cfg} : ∀ (d : D) (v : V) (p : PyData), RelD K c d v → d.py = some p → Dp K c.H v p
  | .non, v, p, h, e => by unfold RelD at h; unfold D.py at e; cases e; subst h; exact .non
  | .bl b, v, p, h, e => by unfold RelD at h; unfold D.py at e; cases e; subst h; exact .bl b
  | .int b, v, p, h, e => by unfold RelD at h; unfold D.py at e; cases e; subst h; exact .int b
  | .str b, v, p, h, e => by unfold RelD at h; unfold D.py at e; cases e; subst h; exact .str b
  | .tup l, v, p, h, e => by
    unfold RelD at h; unfold D.py at e
    obtain ⟨a, vs, rfl, h1, h2⟩ := h
    cases q : pyAll l with
    | none => rw [q] at e; cases e
    | some ps => rw [q] at e; cases e; exact .tup h1 (dps_of l vs ps h2 q)
  | .lst l, v, p, h, e => by
    unfold RelD at h; unfold D.py at e
    obtain ⟨a, vs, rfl, _, h1, h2⟩ := h
    cases q : pyAll l with
    | none => rw [q] at e; cases e
    | some ps => rw [q] at e; cases e; exact .lst (.inl (.inl h1)) (dps_of l vs ps h2 q)
  | .arg l, v, p, h, e => by
    unfold RelD at h; unfold D.py at e
    obtain ⟨a, vs, rfl, h1, h2⟩ := h
    cases q : pyAll l with
    | none => rw [q] at e; cases e
    | some ps => rw [q] at e; cases e; exact .lst h1.seq (dps_of l vs ps h2 q)
  | .ref _, _, _, _, e => by unfold D.py at e; cases e
  | .sp _ _ _, _, _, _, e => by unfold D.py at e; cases e
theorem dps_of {K : PySem.W.Frag} {c : Cfg} : ∀ (l : List D) (vs : List V) (ps : List PyData), RelDs K c l vs → pyAll l = some ps → DpAll K c.H vs ps
  | [], vs, ps, h, e => by unfold RelDs at h; unfold pyAll at e; cases e; subst h; exact .nil
  | d :: l, vs, ps, h, e => by
    unfold RelDs at h; unfold pyAll at e
    obtain ⟨v, r, rfl, h1, h2⟩ := h
    cases q1 : d.py with
    | none => rw [q1] at e; cases e
    | some x =>
      cases q2 : pyAll l with
      | none => rw [q1, q2] at e; cases e
      | some xs => rw [q1, q2] at e; cases e; exact .cons (dp_of d v x h1 q1) (dps_of l r xs h2 q2)
end
theorem dpR_of {K : PySem.W.Frag} {c : Cfg} {h : Hh} (wf : WF K c h) {r : R} {v : V} {p : PyData} (hr : RelR K c r v) (e : r.pyH h = some p) : Dp K c.H v p := by
  have own : ∀ l : List D, Mi.OwnL K c l v → (pyAll l).map PyData.list = some p → Dp K c.H v p := fun l ⟨a, vs, e1, e2, _, _, e3⟩ q => by
    subst e1
    cases q1 : pyAll l with
    | none => rw [q1] at q; cases q
    | some ps => rw [q1] at q; cases q; exact .lst (.inl (.inl e2)) (dps_of l vs ps e3 q1)
  unfold R.pyH at e
  split at e
  · rename_i n
    split at e
    · rename_i l hl
      have hr' : RelD K c (.ref n) v := hr
      unfold RelD at hr'
      obtain ⟨vs, e1, e2⟩ := wf.obj n _ hl
      cases q1 : pyAll l with
      | none => rw [q1] at e; cases e
      | some ps => rw [q1] at e; cases e; rw [hr'.2]; exact .lst (.inl (.inl e1)) (dps_of l vs ps e2 q1)
    · cases e
  · unfold R.py at e
    split at e
    · exact dp_of _ v p hr e
    · exact own _ hr e
    · exact own _ hr e
/-- what a comparison of two answers asks of the layer's rule -/
def CmpPrim (X : Cx) (EW : EWish) (op : Cop) (r : R2) : Prop := ∀ (c : Cfg) (h : Hh) (x y : R) (u v : V) (Q : VK), WF X.K c h → RelR X.K c x u → RelR X.K c y v → ∀ b, cmpF h op x y = some b → (∀ c', c' = c → Q (.bl b) c'.H) → r u v c.H Q
theorem cmp_two {op : Cop} {r : R2} (pr : CmpPrim X EW op r) {a b : E} : ∀ σ H Q, tE X.K EW C G (.cmp op a b) σ H Q → tOp r (tE X.K EW C G a) (tE X.K EW C G b) σ H Q :=
  two_red (f := fun h x y => (cmpF h op x y).map fun b => .dat (.bl b)) (fun _ _ => by conv => lhs; unfold evalE) fun c h x y u v Q wf r1 r2 p => by
    cases e : cmpF h op x y with
    | none => rw [e] at p; exact False.elim p
    | some b =>
      rw [e] at p
      exact pr c h x y u v Q wf r1 r2 b e fun c' ec => by subst ec; exact PostE.here wf p relBl
def rEqE (K : PySem.W.Frag) : R2 := fun x y H Q => ∃ (a b : Addr) (xs : List V), x = .ref a ∧ y = .ref b ∧ SqT K H a xs ∧ SqT K H b [] ∧ Q (.bl xs.isEmpty) H
def rNeE (K : PySem.W.Frag) : R2 := fun x y H Q => ∃ (a b : Addr) (xs : List V), x = .ref a ∧ y = .ref b ∧ SqT K H a xs ∧ SqT K H b [] ∧ Q (.bl (!xs.isEmpty)) H
/-- any tuple and the empty one -/
theorem op_eqE (hu : X.A.units < cLine) : OpR X (compareOp .Eq) (rEqE X.K) := by
  intro pins s σ H x y v u Q I rx ry h
  obtain ⟨a, b, xs, rfl, rfl, h1, h2, q⟩ := h
  cases rx
  cases ry
  obtain ⟨its, rv, p, hz⟩ := I.tuple h1
  obtain ⟨its2, rv2, p2, hz2⟩ := I.tuple h2
  cases rv2
  refine SeqAt.eq_tupleAt (items := its.toArray) (items2 := #[]) (e := fun _ => true) p p2 hu (fun j g1 g2 => absurd g2 (Nat.not_lt_zero _)) ?_
  have e : ((List.range (min its.toArray.size (#[] : Array Value).size)).all (fun _ => true) && its.toArray.size == (#[] : Array Value).size) = xs.isEmpty := by
    cases xs with
    | nil => cases rv; rfl
    | cons z zs => cases rv; rfl
  rw [e]
  exact ⟨.bl _, H, I, rfl, q⟩
theorem op_neE (hu : X.A.units < cLine) : OpR X (compareOp .NotEq) (rNeE X.K) := by
  intro pins s σ H x y v u Q I rx ry h
  obtain ⟨a, b, xs, rfl, rfl, h1, h2, q⟩ := h
  cases rx
  cases ry
  obtain ⟨its, rv, p, hz⟩ := I.tuple h1
  obtain ⟨its2, rv2, p2, hz2⟩ := I.tuple h2
  cases rv2
  have e : (!((List.range (min its.toArray.size (#[] : Array Value).size)).all (fun _ => true) && its.toArray.size == (#[] : Array Value).size)) = !xs.isEmpty := by
    cases xs with
    | nil => cases rv; rfl
    | cons z zs => cases rv; rfl
  have r := SeqAt.RcNeAt.tuples (items := its.toArray) (items2 := #[]) (e := fun _ => true) p p2 hu (fun j g1 g2 => absurd g2 (Nat.not_lt_zero _))
  rw [e] at r
  exact r _ _ _ _ ⟨.bl _, H, I, rfl, q⟩
def rEqL (K : PySem.W.Frag) : R2 := fun x y H Q => ∃ (a b : Addr) (xs : List V), x = .ref a ∧ y = .ref b ∧ SqL K H a xs ∧ SqL K H b [] ∧ Q (.bl xs.isEmpty) H
def rNeL (K : PySem.W.Frag) : R2 := fun x y H Q => ∃ (a b : Addr) (xs : List V), x = .ref a ∧ y = .ref b ∧ SqL K H a xs ∧ SqL K H b [] ∧ Q (.bl (!xs.isEmpty)) H
/-- any list and an empty one -/
theorem op_eqL (hu : X.A.units < cLine) : OpR X (compareOp .Eq) (rEqL X.K) := by
  intro pins s σ H x y v u Q I rx ry h
  obtain ⟨a, b, xs, rfl, rfl, h1, h2, q⟩ := h
  cases rx
  cases ry
  obtain ⟨its, rv, p, hz⟩ := I.list h1
  obtain ⟨its2, rv2, p2, hz2⟩ := I.list h2
  cases rv2
  cases xs with
  | nil =>
    cases rv
    exact SeqAt.RcAt.lists (items := #[]) (items2 := #[]) (e := fun _ => true) p.isList p2.isList rfl hu (fun j g1 g2 => absurd g2 (Nat.not_lt_zero _)) _ _ _ _ ⟨.bl _, H, I, rfl, q⟩
  | cons z zs =>
    cases rv
    exact SeqAt.RcAt.lists_lengths p.isList p2.isList (by simp) hu _ _ _ _ ⟨.bl _, H, I, rfl, q⟩
theorem op_neL (hu : X.A.units < cLine) : OpR X (compareOp .NotEq) (rNeL X.K) := by
  intro pins s σ H x y v u Q I rx ry h
  obtain ⟨a, b, xs, rfl, rfl, h1, h2, q⟩ := h
  cases rx
  cases ry
  obtain ⟨its, rv, p, hz⟩ := I.list h1
  obtain ⟨its2, rv2, p2, hz2⟩ := I.list h2
  cases rv2
  cases xs with
  | nil =>
    cases rv
    exact SeqAt.RcNeAt.lists (items := #[]) (items2 := #[]) (e := fun _ => true) p.isList p2.isList rfl hu (fun j g1 g2 => absurd g2 (Nat.not_lt_zero _)) _ _ _ _ ⟨.bl _, H, I, rfl, q⟩
  | cons z zs =>
    cases rv
    exact SeqAt.RcNeAt.lists_lengths p.isList p2.isList (by simp) hu _ _ _ _ ⟨.bl _, H, I, rfl, q⟩
theorem cp_eq (hu : X.A.units + 64 < cLine) : CmpPrim X EW .eq (fun x y H Q => rEq x y H Q ∨ rEqE X.K x y H Q ∨ rEqL X.K x y H Q ∨ rEqD X.K x y H Q) := fun c h x y u v Q wf r1 r2 b e q => by
  have e : eqF h x y = some b := e
  unfold eqF at e
  split at e
  · rename_i a b _
    cases e
    have r1 : RelD X.K c (.str a) u := r1
    have r2 : RelD X.K c (.str b) v := r2
    unfold RelD at r1 r2
    subst r1
    subst r2
    have := q c rfl
    exact .inl ⟨rfl, by simpa using this⟩
  · rename_i a _
    cases e
    have r1 : RelD X.K c (.tup a) u := r1
    have r2 : RelD X.K c (.tup []) v := r2
    unfold RelD at r1 r2
    obtain ⟨p, vs, rfl, g1, g2⟩ := r1
    obtain ⟨p2, ws, rfl, g3, g4⟩ := r2
    unfold RelDs at g4
    subst g4
    have el : a.isEmpty = vs.isEmpty := by
      cases a with
      | nil => unfold RelDs at g2; rw [g2]; rfl
      | cons x l => unfold RelDs at g2; obtain ⟨_, _, z, _⟩ := g2; rw [z]; rfl
    have := q c rfl
    rw [el] at this
    exact .inr (.inl ⟨p, p2, vs, rfl, rfl, g1, g3, this⟩)
  · rename_i a _
    cases e
    have r1 : RelD X.K c (.lst a) u := r1
    have r2 : OwnL X.K c [] v := r2
    unfold RelD at r1
    obtain ⟨p, vs, rfl, g0, g1, g2⟩ := r1
    obtain ⟨p2, ws, rfl, g3, _, _, g4⟩ := r2
    unfold RelDs at g4
    subst g4
    have el : a.isEmpty = vs.isEmpty := by
      cases a with
      | nil => unfold RelDs at g2; rw [g2]; rfl
      | cons x l => unfold RelDs at g2; obtain ⟨_, _, z, _⟩ := g2; rw [z]; rfl
    have := q c rfl
    rw [el] at this
    exact .inr (.inr (.inl ⟨p, p2, vs, rfl, rfl, .inl (.inl g1), .inl (.inl g3), this⟩))
  · split at e
    · rename_i p1 p2 e1 e2
      split at e
      · rename_i hs
        cases e
        simp only [Bool.and_eq_true] at hs
        exact .inr (.inr (.inr ⟨p1, p2, dpR_of wf r1 e1, dpR_of wf r2 e2, hs.1, hs.2, q c rfl⟩))
      · cases e
    · cases e
theorem cp_ne (hu : X.A.units + 64 < cLine) : CmpPrim X EW .ne (fun x y H Q => rNe x y H Q ∨ rNeE X.K x y H Q ∨ rNeL X.K x y H Q ∨ rNeD X.K x y H Q) := fun c h x y u v Q wf r1 r2 b e q => by
  have e : (eqF h x y).map (!·) = some b := e
  unfold eqF at e
  split at e
  · rename_i a b _
    cases e
    have r1 : RelD X.K c (.str a) u := r1
    have r2 : RelD X.K c (.str b) v := r2
    unfold RelD at r1 r2
    subst r1
    subst r2
    have := q c rfl
    exact .inl ⟨rfl, by simpa using this⟩
  · rename_i a _
    cases e
    have r1 : RelD X.K c (.tup a) u := r1
    have r2 : RelD X.K c (.tup []) v := r2
    unfold RelD at r1 r2
    obtain ⟨p, vs, rfl, g1, g2⟩ := r1
    obtain ⟨p2, ws, rfl, g3, g4⟩ := r2
    unfold RelDs at g4
    subst g4
    have el : a.isEmpty = vs.isEmpty := by
      cases a with
      | nil => unfold RelDs at g2; rw [g2]; rfl
      | cons x l => unfold RelDs at g2; obtain ⟨_, _, z, _⟩ := g2; rw [z]; rfl
    have := q c rfl
    rw [el] at this
    exact .inr (.inl ⟨p, p2, vs, rfl, rfl, g1, g3, this⟩)
  · rename_i a _
    cases e
    have r1 : RelD X.K c (.lst a) u := r1
    have r2 : OwnL X.K c [] v := r2
    unfold RelD at r1
    obtain ⟨p, vs, rfl, g0, g1, g2⟩ := r1
    obtain ⟨p2, ws, rfl, g3, _, _, g4⟩ := r2
    unfold RelDs at g4
    subst g4
    have el : a.isEmpty = vs.isEmpty := by
      cases a with
      | nil => unfold RelDs at g2; rw [g2]; rfl
      | cons x l => unfold RelDs at g2; obtain ⟨_, _, z, _⟩ := g2; rw [z]; rfl
    have := q c rfl
    rw [el] at this
    exact .inr (.inr (.inl ⟨p, p2, vs, rfl, rfl, .inl (.inl g1), .inl (.inl g3), this⟩))
  · split at e
    · rename_i p1 p2 e1 e2
      split at e
      · rename_i hs
        cases e
        simp only [Bool.and_eq_true] at hs
        exact .inr (.inr (.inr ⟨p1, p2, dpR_of wf r1 e1, dpR_of wf r2 e2, hs.1, hs.2, q c rfl⟩))
      · cases e
    · cases e
theorem cp_ord {op : Cop} {f : Int → Int → Bool} (hop : ∀ h x y, cmpF h op x y = ordF f x y) : CmpPrim X EW op (rI0 fun i j => .bl (f i j)) := fun c h x y u v Q wf r1 r2 b e q => by
  rw [hop] at e
  unfold ordF at e
  split at e
  · rename_i i j
    cases e
    exact ⟨i, j, r1, r2, q c rfl⟩
  · cases e
theorem cp_le : CmpPrim X EW .le (rI0 fun i j => .bl (decide (i ≤ j))) := cp_ord fun _ _ _ => rfl
theorem cp_ge : CmpPrim X EW .ge (rI0 fun i j => .bl (decide (j ≤ i))) := cp_ord fun _ _ _ => rfl
/-! ### ranks -/
def rRk (K : PySem.W.Frag) (f : PyData → PyData → Bool) : R2 := fun x y H Q => ∃ d e, Dp K H x d ∧ Dp K H y e ∧ rkP 9 d = true ∧ rkP 9 e = true ∧ Q (.bl (f d e)) H
theorem op_ltK (hu : X.A.units + 64 < cLine) : OpR X (compareOp .Lt) (rRk X.K fun d e => ltP 9 d e) := by
  intro pins s σ H x y v u Q I rx ry h
  obtain ⟨d, e, hd, he, sd, se, q⟩ := h
  obtain ⟨as, r1⟩ := Dp.reads I d x v hd rx
  obtain ⟨bs, r2⟩ := Dp.reads I e y u he ry
  exact rank_lt 9 d e X.A s v u as bs r1 r2 sd se (by omega) _ _ _ _ ⟨.bl _, H, I, rfl, q⟩
theorem op_gtK (hu : X.A.units + 64 < cLine) : OpR X (compareOp .Gt) (rRk X.K fun d e => ltP 9 e d) := by
  intro pins s σ H x y v u Q I rx ry h
  obtain ⟨d, e, hd, he, sd, se, q⟩ := h
  obtain ⟨as, r1⟩ := Dp.reads I d x v hd rx
  obtain ⟨bs, r2⟩ := Dp.reads I e y u he ry
  exact rank_gt 9 d e X.A s v u as bs r1 r2 sd se (by omega) _ _ _ _ ⟨.bl _, H, I, rfl, q⟩
theorem rk_ {c : Cfg} {h : Hh} {x y : R} {u v : V} {b : Bool} (wf : WF X.K c h) (r1 : RelR X.K c x u) (r2 : RelR X.K c y v) (e : rkF h x y = some b) :
    ∃ p q, Dp X.K c.H u p ∧ Dp X.K c.H v q ∧ rkP 9 p = true ∧ rkP 9 q = true ∧ b = ltP 9 p q := by
  unfold rkF at e
  split at e
  · rename_i p q e1 e2
    split at e
    · rename_i hs
      cases e
      simp only [Bool.and_eq_true] at hs
      exact ⟨p, q, dpR_of wf r1 e1, dpR_of wf r2 e2, hs.1, hs.2, rfl⟩
    · cases e
  · cases e
def rTi (K : PySem.W.Frag) : R2 := fun x y H Q => ∃ p q ms ns, x = .ref p ∧ y = .ref q ∧ SqT K H p (ms.map V.int) ∧ SqT K H q (ns.map V.int) ∧ Q (.bl (lexI ms ns)) H
theorem vals_intA : ∀ {ns : List Int} {its : List Value}, Vals (ns.map V.int) its → its.length = ns.length ∧ ∀ (i : Nat) (h : i < its.length), ∃ m t, ns[i]? = some m ∧ its[i] = .int m t
  | [], _, .nil => ⟨rfl, fun _ h => absurd h (Nat.not_lt_zero _)⟩
  | n :: ns, _, .cons r t => by
    obtain ⟨h1, h2⟩ := vals_intA t
    obtain ⟨k, rfl⟩ := r
    refine ⟨by simp [h1], fun i h => ?_⟩
    cases i with
    | zero => exact ⟨n, k, rfl, rfl⟩
    | succ i =>
      obtain ⟨m, t, e1, e2⟩ := h2 i (by simpa using h)
      exact ⟨m, t, by simpa using e1, by simpa using e2⟩
open PySem.SeqAt MeetsSeq MeetsSeq2 MeetsSeq3 SeqRoads2 in
theorem op_ltTI (hu : X.A.units + 64 < cLine) : OpR X (compareOp .Lt) (rTi X.K) := by
  intro pins s σ H x y v u Q I rx ry h
  obtain ⟨p, q, ms, ns, rfl, rfl, h1, h2, hq⟩ := h
  cases rx
  cases ry
  obtain ⟨its, rv, p1, hz⟩ := I.tuple h1
  obtain ⟨its2, rv2, p2, hz2⟩ := I.tuple h2
  obtain ⟨l1, a1⟩ := vals_intA rv
  obtain ⟨l2, a2⟩ := vals_intA rv2
  have go := rc_tup_lt (A := X.A) (s := s) (eq := fun i => decide (ms.getD i 0 = ns.getD i 0)) (rc := fun i => decide (ms.getD i 0 < ns.getD i 0)) p1 p2 (by omega)
    (fun j j1 j2 => by
      obtain ⟨m, t, e1, e2⟩ := a1 j (by simpa using j1)
      obtain ⟨n, t', e3, e4⟩ := a2 j (by simpa using j2)
      have f1 : its.toArray[j] = .int m t := by simpa using e2
      have f2 : its2.toArray[j] = .int n t' := by simpa using e4
      rw [f1, f2]
      have g1 : ms.getD j 0 = m := by rw [List.getD_eq_getElem?_getD, e1]; rfl
      have g2 : ns.getD j 0 = n := by rw [List.getD_eq_getElem?_getD, e3]; rfl
      rw [g1, g2]
      have z := PySem.SeqAt.EqAt.int_int (A := X.A.in1) (s := s) m t n t'
      have ez : (m == n) = decide (m = n) := by by_cases w : m = n <;> simp [w]
      rw [← ez]
      exact z)
    (fun j j1 j2 _ _ => by
      obtain ⟨m, t, e1, e2⟩ := a1 j (by simpa using j1)
      obtain ⟨n, t', e3, e4⟩ := a2 j (by simpa using j2)
      have f1 : its.toArray[j] = .int m t := by simpa using e2
      have f2 : its2.toArray[j] = .int n t' := by simpa using e4
      rw [f1, f2]
      have g1 : ms.getD j 0 = m := by rw [List.getD_eq_getElem?_getD, e1]; rfl
      have g2 : ns.getD j 0 = n := by rw [List.getD_eq_getElem?_getD, e3]; rfl
      rw [g1, g2]
      intro prog w E Q hq
      exact P.lt_int hq)
  have el : firstLt (fun i => decide (ms.getD i 0 = ns.getD i 0)) (fun i => decide (ms.getD i 0 < ns.getD i 0)) (decide (its.toArray.size < its2.toArray.size)) (List.range (min its.toArray.size its2.toArray.size)) = lexI ms ns := by
    rw [List.size_toArray, List.size_toArray, l1, l2, List.range_eq_range']
    refine first_lexI ms ns 0 (fun i x y hx hy => ?_) (fun i x y hx hy => ?_) rfl
    · rw [Nat.zero_add, List.getD_eq_getElem?_getD, List.getD_eq_getElem?_getD, hx, hy]; rfl
    · rw [Nat.zero_add, List.getD_eq_getElem?_getD, List.getD_eq_getElem?_getD, hx, hy]; rfl
  rw [el] at go
  exact go _ _ _ _ ⟨.bl _, H, I, rfl, hq⟩
theorem rels_intsM {K : PySem.W.Frag} {c : Cfg} : ∀ {l : List D} {vs : List V} {ns : List Int}, RelDs K c l vs → intsOf l = some ns → vs = ns.map V.int
  | [], vs, ns, r, e => by unfold RelDs at r; simp [intsOf] at e; subst e; rw [r]; rfl
  | d :: l, vs, ns, r, e => by
    unfold RelDs at r
    obtain ⟨v, r', rfl, r1, r2⟩ := r
    cases d with
    | int i =>
      simp only [intsOf, Option.map_eq_some_iff] at e
      obtain ⟨ms, e, rfl⟩ := e
      unfold RelD at r1
      subst r1
      rw [rels_intsM r2 e]; rfl
    | _ => simp [intsOf] at e
theorem ti_ {c : Cfg} {x y : R} {u v : V} {b : Bool} (r1 : RelR X.K c x u) (r2 : RelR X.K c y v) (e : tiF x y = some b) : ∃ p q ms ns, u = .ref p ∧ v = .ref q ∧ SqT X.K c.H p (ms.map V.int) ∧ SqT X.K c.H q (ns.map V.int) ∧ b = lexI ms ns := by
  unfold tiF at e
  split at e
  · rename_i a z
    split at e
    · rename_i m n e1 e2
      cases e
      have h1 : RelD X.K c (.tup a) u := r1
      have h2 : RelD X.K c (.tup z) v := r2
      unfold RelD at h1 h2
      obtain ⟨p, vs, rfl, g1, g2⟩ := h1
      obtain ⟨q, ws, rfl, g3, g4⟩ := h2
      rw [rels_intsM g2 e1] at g1
      rw [rels_intsM g4 e2] at g3
      exact ⟨p, q, m, n, rfl, rfl, g1, g3, rfl⟩
    · cases e
  · cases e
theorem orB_ {a z : Option Bool} {b : Bool} (e : orB a z = some b) : a = some b ∨ z = some b := by
  cases a with
  | none => exact .inr e
  | some k => exact .inl e
theorem ordF_ {c : Cfg} {f : Int → Int → Bool} {x y : R} {u v : V} {b : Bool} (r1 : RelR X.K c x u) (r2 : RelR X.K c y v) (e : ordF f x y = some b) : ∃ i j, u = .int i ∧ v = .int j ∧ b = f i j := by
  unfold ordF at e
  split at e
  · rename_i i j
    cases e
    exact ⟨i, j, r1, r2, rfl⟩
  · cases e
theorem isN_ {c : Cfg} {x y : R} {u v : V} {b : Bool} (r1 : RelR X.K c x u) (r2 : RelR X.K c y v) (e : isN x y = some b) : (v = .non ∧ b = decide (u = .non)) ∨ ∃ p q, u = .bl p ∧ v = .bl q ∧ b = decide (p = q) := by
  unfold isN at e
  split at e
  · cases e
    have h1 : RelD X.K c .non u := r1
    have h2 : RelD X.K c .non v := r2
    unfold RelD at h1 h2
    exact .inl ⟨h2, by rw [h1]; rfl⟩
  · rename_i hx
    cases e
    have h2 : RelD X.K c .non v := r2
    unfold RelD at h2
    refine .inl ⟨h2, (decide_eq_false fun z => ?_).symm⟩
    subst z
    cases x with
    | new l => obtain ⟨a, vs, e1, _⟩ := r1; cases e1
    | bor l => obtain ⟨a, vs, e1, _⟩ := r1; cases e1
    | dat d =>
      have h1 : RelD X.K c d .non := r1
      cases d with
      | non => exact hx rfl
      | bl b => unfold RelD at h1; cases h1
      | int b => unfold RelD at h1; cases h1
      | str b => unfold RelD at h1; cases h1
      | tup l => unfold RelD at h1; obtain ⟨a, vs, e1, _⟩ := h1; cases e1
      | lst l => unfold RelD at h1; obtain ⟨a, vs, e1, _⟩ := h1; cases e1
      | arg l => unfold RelD at h1; obtain ⟨a, vs, e1, _⟩ := h1; cases e1
      | ref n => unfold RelD at h1; cases h1.2
      | sp b x l =>
        unfold RelD at h1
        obtain ⟨C, _, h1⟩ := h1
        cases b with
        | true => rw [if_pos rfl] at h1; obtain ⟨a, d, e1, _⟩ := h1; cases e1
        | false => rw [if_neg (by decide)] at h1; cases h1.1
  · rename_i p q
    cases e
    have h1 : RelD X.K c (.bl p) u := r1
    have h2 : RelD X.K c (.bl q) v := r2
    unfold RelD at h1 h2
    exact .inr ⟨p, q, h1, h2, rfl⟩
  · cases e
theorem cp_is : CmpPrim X EW .is (fun x y H Q => (y = .non ∧ Q (.bl (decide (x = .non))) H) ∨ ∃ a b, x = .bl a ∧ y = .bl b ∧ Q (.bl (decide (a = b))) H) := fun c h x y u v Q wf r1 r2 b e q => by
  rcases isN_ r1 r2 e with ⟨h1, h2⟩ | ⟨p, q', h1, h2, h3⟩
  · exact .inl ⟨h1, by rw [← h2]; exact q c rfl⟩
  · exact .inr ⟨p, q', h1, h2, by rw [← h3]; exact q c rfl⟩
theorem cp_isnot : CmpPrim X EW .isnot (fun x y H Q => (y = .non ∧ Q (.bl (!decide (x = .non))) H) ∨ ∃ a b, x = .bl a ∧ y = .bl b ∧ Q (.bl (!decide (a = b))) H) := fun c h x y u v Q wf r1 r2 b e q => by
  have e : (isN x y).map (!·) = some b := e
  cases e1 : isN x y with
  | none => rw [e1] at e; cases e
  | some b' =>
    rw [e1] at e
    cases e
    rcases isN_ r1 r2 e1 with ⟨h1, h2⟩ | ⟨p, q', h1, h2, h3⟩
    · exact .inl ⟨h1, by rw [← h2]; exact q c rfl⟩
    · exact .inr ⟨p, q', h1, h2, by rw [← h3]; exact q c rfl⟩
theorem cp_lt : CmpPrim X EW .lt (fun x y H Q => (rI0 fun i j => .bl (decide (i < j))) x y H Q ∨ (rRk X.K (fun d e => ltP 9 d e) x y H Q ∨ rTi X.K x y H Q)) := fun c h x y u v Q wf r1 r2 b e q => by
  rcases orB_ e with e | e
  · obtain ⟨i, j, rfl, rfl, rfl⟩ := ordF_ r1 r2 e
    exact .inl ⟨i, j, rfl, rfl, q c rfl⟩
  · rcases orB_ e with e | e
    · obtain ⟨d, d', g1, g2, g3, g4, rfl⟩ := rk_ wf r1 r2 e
      exact .inr (.inl ⟨d, d', g1, g2, g3, g4, q c rfl⟩)
    · obtain ⟨p', q', ms, ns, rfl, rfl, g1, g2, rfl⟩ := ti_ r1 r2 e
      exact .inr (.inr ⟨p', q', ms, ns, rfl, rfl, g1, g2, q c rfl⟩)
theorem cp_gt : CmpPrim X EW .gt (fun x y H Q => (rI0 fun i j => .bl (decide (j < i))) x y H Q ∨ rRk X.K (fun d e => ltP 9 e d) x y H Q) := fun c h x y u v Q wf r1 r2 b e q => by
  rcases orB_ e with e | e
  · obtain ⟨i, j, rfl, rfl, rfl⟩ := ordF_ r1 r2 e
    exact .inl ⟨i, j, rfl, rfl, q c rfl⟩
  · obtain ⟨d, d', g1, g2, g3, g4, rfl⟩ := rk_ wf r2 r1 e
    exact .inr ⟨d', d, g2, g1, g4, g3, q c rfl⟩
theorem flat_rel {c : Cfg} {d : D} {v w : V} (h : RelD X.K c d v) (e : d.flat = some w) : v = w ∧ flatV w = true := by
  cases d with
  | non => unfold RelD at h; unfold D.flat at e; cases e; exact ⟨h, rfl⟩
  | bl b => unfold RelD at h; unfold D.flat at e; cases e; exact ⟨h, rfl⟩
  | int b => unfold RelD at h; unfold D.flat at e; cases e; exact ⟨h, rfl⟩
  | str b => unfold RelD at h; unfold D.flat at e; cases e; exact ⟨h, rfl⟩
  | _ => unfold D.flat at e; cases e
theorem flats_rel {c : Cfg} : ∀ {l : List D} {vs ws : List V}, RelDs X.K c l vs → flats l = some ws → vs = ws ∧ ws.all flatV = true
  | [], vs, ws, h, e => by unfold RelDs at h; unfold flats at e; cases e; exact ⟨h, rfl⟩
  | d :: l, vs, ws, h, e => by
    unfold RelDs at h; unfold flats at e
    obtain ⟨v, r, rfl, h1, h2⟩ := h
    cases q1 : d.flat with
    | none => rw [q1] at e; cases e
    | some x =>
      cases q2 : flats l with
      | none => rw [q1, q2] at e; cases e
      | some xs =>
        rw [q1, q2] at e; cases e
        obtain ⟨a1, a2⟩ := flat_rel h1 q1
        obtain ⟨b1, b2⟩ := flats_rel h2 q2
        exact ⟨by rw [a1, b1], by simp [a2, b2]⟩
def rInM (K : PySem.W.Frag) : R2 := fun x y H Q => (∃ (c : Nat) (z : Str), x = .str ⟨#[c]⟩ ∧ y = .str z ∧ Q (.bl (decide (c ∈ z.cps.toList))) H) ∨ rIn K false x y H Q
def rNotInM (K : PySem.W.Frag) : R2 := fun x y H Q => (∃ (c : Nat) (z : Str), x = .str ⟨#[c]⟩ ∧ y = .str z ∧ Q (.bl (!decide (c ∈ z.cps.toList))) H) ∨ rIn K true x y H Q
theorem str_one {a : Str} {c : Nat} (h : a.cps.toList = [c]) : a = ⟨#[c]⟩ := by
  obtain ⟨⟨l⟩⟩ := a
  simp at h
  subst h
  rfl
omit [Tb] in
theorem py_pyH {h : Hh} {d : D} {p : PyData} (e : d.py = some p) : (R.dat d).pyH h = some p := by
  cases d with
  | ref n => cases e
  | _ => exact e
theorem in_ {c : Cfg} {h : Hh} {x y : R} {u v : V} {b : Bool} (wf : WF X.K c h) (r1 : RelR X.K c x u) (r2 : RelR X.K c y v) (e : inF h x y = some b) :
    (∃ (n : Nat) (z : Str), u = .str ⟨#[n]⟩ ∧ v = .str z ∧ b = decide (n ∈ z.cps.toList)) ∨ (∃ p xs, v = .ref p ∧ (SqL X.K c.H p xs ∨ SqT X.K c.H p xs) ∧ flatV u = true ∧ xs.all flatV = true ∧ b = inV u xs) ∨
      ∃ d ds, Dp X.K c.H u d ∧ Dp X.K c.H v (.list ds) ∧ SeqAt.shaped d = true ∧ SeqAt.shaped (.list ds) = true ∧ b = ds.any fun z => PyData.eqv z d := by
  unfold inF at e
  split at e
  · rename_i a z
    split at e
    · rename_i n hn
      cases e
      have h1 : RelD X.K c (.str a) u := r1
      have h2 : RelD X.K c (.str z) v := r2
      unfold RelD at h1 h2
      exact .inl ⟨n, z, by rw [h1, str_one hn], h2, rfl⟩
    · cases e
  · rename_i d y' _
    split at e
    · rename_i w ws e1 e2
      cases e
      obtain ⟨a1, a2⟩ := flat_rel r1 e1
      obtain ⟨l, e3, e4⟩ := Option.bind_eq_some_iff.mp e2
      obtain ⟨p, xs, g1, g2, g3⟩ := sv_rel wf r2 e3
      obtain ⟨b1, b2⟩ := flats_rel g3 e4
      exact .inr (.inl ⟨p, xs, g1, g2, by rw [a1]; exact a2, by rw [b1]; exact b2, by rw [a1, b1]⟩)
    · split at e
      · rename_i p ds e1 e2
        split at e
        · rename_i hs
          cases e
          simp only [Bool.and_eq_true] at hs
          exact .inr (.inr ⟨p, ds, dpR_of wf r1 (py_pyH e1), dpR_of wf r2 e2, hs.1, hs.2, rfl⟩)
        · cases e
      · cases e
  · cases e
theorem op_inM : OpR X (compareOp .In) (rInM X.K) := op_in_sign.or op_in_seq
theorem op_notInM : OpR X (compareOp .NotIn) (rNotInM X.K) := op_notIn_sign.or op_notIn_seq
theorem cp_in : CmpPrim X EW .isin (fun x y H Q => rInM X.K x y H Q ∨ rInD X.K x y H Q) := fun c h x y u v Q wf r1 r2 b e q => by
  rcases in_ wf r1 r2 e with ⟨n, z, rfl, rfl, rfl⟩ | ⟨p, xs, g1, g2, g3, g4, rfl⟩ | ⟨d, ds, g1, g2, g3, g4, rfl⟩
  · exact .inl (.inl ⟨n, z, rfl, rfl, q c rfl⟩)
  · exact .inl (.inr ⟨p, xs, g1, g2, g3, g4, q c rfl⟩)
  · exact .inr ⟨d, ds, g1, g2, g3, g4, q c rfl⟩
theorem cp_notin : CmpPrim X EW .notin (fun x y H Q => rNotInM X.K x y H Q ∨ rNotInD X.K x y H Q) := fun c h x y u v Q wf r1 r2 b e q => by
  have e : (inF h x y).map (!·) = some b := e
  cases e1 : inF h x y with
  | none => rw [e1] at e; cases e
  | some b' =>
    rw [e1] at e
    cases e
    rcases in_ wf r1 r2 e1 with ⟨n, z, rfl, rfl, rfl⟩ | ⟨p, xs, g1, g2, g3, g4, rfl⟩ | ⟨d, ds, g1, g2, g3, g4, rfl⟩
    · exact .inl (.inl ⟨n, z, rfl, rfl, q c rfl⟩)
    · exact .inl (.inr ⟨p, xs, g1, g2, g3, g4, q c rfl⟩)
    · exact .inr ⟨d, ds, g1, g2, g3, g4, q c rfl⟩
/-- the layer's rule behind each comparison -/
structure CmpRule (X : Cx) (EW : EWish) (op : CmpOp) (m : Cop) where
  r : R2
  rule : OpR X (compareOp op) r
  prim : CmpPrim X EW m r
def cr_eq (hu : X.A.units + 64 < cLine) : CmpRule X EW .Eq .eq := ⟨_, op_eq.or ((op_eqE (by omega)).or ((op_eqL (by omega)).or (op_eqD hu))), cp_eq hu⟩
def cr_ne (hu : X.A.units + 64 < cLine) : CmpRule X EW .NotEq .ne := ⟨_, op_ne.or ((op_neE (by omega)).or ((op_neL (by omega)).or (op_neD hu))), cp_ne hu⟩
def cr_lt (hu : X.A.units + 64 < cLine) : CmpRule X EW .Lt .lt := ⟨_, op_lt.or ((op_ltK hu).or (op_ltTI hu)), cp_lt⟩
def cr_le : CmpRule X EW .LtE .le := ⟨_, op_le, cp_le⟩
def cr_gt (hu : X.A.units + 64 < cLine) : CmpRule X EW .Gt .gt := ⟨_, op_gt.or (op_gtK hu), cp_gt⟩
def cr_ge : CmpRule X EW .GtE .ge := ⟨_, op_ge, cp_ge⟩
def cr_is : CmpRule X EW .Is .is := ⟨_, op_isN.or op_is_bl, cp_is⟩
def cr_isnot : CmpRule X EW .IsNot .isnot := ⟨_, op_notN.or op_isnot_bl, cp_isnot⟩
def cr_in (hu : X.A.units + 65 < cLine) : CmpRule X EW .In .isin := ⟨_, op_inM.or (op_inD hu), cp_in⟩
def cr_notin (hu : X.A.units + 65 < cLine) : CmpRule X EW .NotIn .notin := ⟨_, op_notInM.or (op_notInD hu), cp_notin⟩
theorem sim_cmp {op : CmpOp} {m : Cop} (R : CmpRule X EW op m) {a b : Expr} {ma mb : E} {pos : Pos} (ha : PE X a (tE X.K EW C G ma)) (hb : PE X b (tE X.K EW C G mb)) (hm : behindInMarks op b = false := by first | exact nomark _ | rfl) :
    PE X (.Compare a [op] [b] pos) (tE X.K EW C G (.cmp m ma mb)) := (pe_cmpR R.rule ha hb hm).imp (cmp_two R.prim)
theorem tst_cmp {op : CmpOp} {m : Cop} (R : CmpRule X EW op m) {a b : Expr} {ma mb : E} {pos : Pos} (ha : PE X a (tE X.K EW C G ma)) (hb : PE X b (tE X.K EW C G mb)) (hm : behindInMarks op b = false := by first | exact nomark _ | rfl) :
    PT X (.Compare a [op] [b] pos) (tT X.K EW C G (.cmp m ma mb)) := (pt_cmpR R.rule ha hb hm).imp fun σ H Q w => cmp_two R.prim σ H _ w
theorem chain_red {op op' : CmpOp} {m m' : Cop} (R : CmpRule X EW op m) (R' : CmpRule X EW op' m') {a b c : E} : ∀ σ H Q, tE X.K EW C G (.chain m m' a b c) σ H Q → tChain R.r R'.r (tE X.K EW C G a) (tE X.K EW C G b) (tE X.K EW C G c) σ H Q := fun σ H Q w => by
  obtain ⟨He, c0, h, env, rfl, wf, re, p⟩ := w
  unfold evalE at p
  refine ⟨He, c0, h, env, rfl, wf, re, p.bind fun x h1 c1 u le1 wf1 r1 p1 => ?_⟩
  have p1 := PostE.lift le1 p1
  refine ⟨He, c1, h1, env, rfl, wf1, re.mono le1, p1.bind fun y h2 c2 v le2 wf2 r2 p2 => ?_⟩
  have p2 := PostE.lift le2 p2
  cases e : cmpF h2 m x y with
  | none => rw [e] at p2; exact False.elim p2
  | some k =>
    rw [e] at p2
    refine R.prim c2 h2 x y u v _ wf2 (RelR.mono le2 r1.1) r2.1 k e fun c' ec => ?_
    subst ec
    refine ⟨k, rfl, ?_⟩
    cases k with
    | false => exact PostE.here wf2 p2 relBl
    | true =>
      refine ⟨He, c', h2, env, rfl, wf2, (re.mono le1).mono le2, p2.bind fun z h3 c3 t le3 wf3 r3 p3 => ?_⟩
      have p3 := PostE.lift le3 p3
      cases e' : cmpF h3 m' y z with
      | none => rw [e'] at p3; exact False.elim p3
      | some k' =>
        rw [e'] at p3
        exact R'.prim c3 h3 y z v t _ wf3 (RelR.mono le3 r2.1) r3.1 k' e' fun c' ec => by subst ec; exact PostE.here wf3 p3 relBl
theorem sim_chain {op op' : CmpOp} {m m' : Cop} (R : CmpRule X EW op m) (R' : CmpRule X EW op' m') {a b c : Expr} {ma mb mc : E} {pos : Pos} (ha : PE X a (tE X.K EW C G ma)) (hb : PE X b (tE X.K EW C G mb)) (hc : PE X c (tE X.K EW C G mc))
    (hm : lastMarks [op, op'] [b, c] = false := by with_unfolding_all rfl) : PE X (.Compare a [op, op'] [b, c] pos) (tE X.K EW C G (.chain m m' ma mb mc)) := (pe_chain R.rule R'.rule ha hb hc hm).imp (chain_red R R')
theorem tst_chain {op op' : CmpOp} {m m' : Cop} (R : CmpRule X EW op m) (R' : CmpRule X EW op' m') {a b c : Expr} {ma mb mc : E} {pos : Pos} (ha : PE X a (tE X.K EW C G ma)) (hb : PE X b (tE X.K EW C G mb)) (hc : PE X c (tE X.K EW C G mc))
    (hm : lastMarks [op, op'] [b, c] = false := by with_unfolding_all rfl) : PT X (.Compare a [op, op'] [b, c] pos) (tT X.K EW C G (.chain m m' ma mb mc)) := (pt_chain R.rule R'.rule ha hb hc hm).imp fun σ H Q w => chain_red R R' σ H _ w
/-! ### and, or, not, if -/
theorem tst_val {e : Expr} {m : E} (h : PE X e (tE X.K EW C G m)) (he : ∀ whole, isTrue e X.env whole = (do let v ← whole; standAt e.pos; holding [v] (truthy v)) := by intro _; rfl) : PT X e (tT X.K EW C G m) := pt_val h he
theorem and2_red {a b : E} : ∀ σ H Q, tE X.K EW C G (.and2 a b) σ H Q → tAndV (tE X.K EW C G a) (tE X.K EW C G b) σ H Q := fun σ H Q w => by
  obtain ⟨He, c, h, env, rfl, wf, re, p⟩ := w
  unfold evalE at p
  refine ⟨He, c, h, env, rfl, wf, re, p.bind fun x h1 c1 u le1 wf1 r1 p1 => ?_⟩
  have p1 := PostE.lift le1 p1
  split at p1
  · have q : RelD X.K c1 (.bl true) u := r1.1
    unfold RelD at q
    exact ⟨true, q, by rw [if_pos rfl]; exact ⟨He, c1, h1, env, rfl, wf1, re.mono le1, p1⟩⟩
  · have q : RelD X.K c1 (.bl false) u := r1.1
    unfold RelD at q
    exact ⟨false, q, by rw [if_neg Bool.false_ne_true]; exact PostE.here wf1 p1 relBl⟩
  · exact False.elim p1
theorem or2_red {a b : E} : ∀ σ H Q, tE X.K EW C G (.or2 a b) σ H Q → tOrV (tE X.K EW C G a) (tE X.K EW C G b) σ H Q := fun σ H Q w => by
  obtain ⟨He, c, h, env, rfl, wf, re, p⟩ := w
  unfold evalE at p
  refine ⟨He, c, h, env, rfl, wf, re, p.bind fun x h1 c1 u le1 wf1 r1 p1 => ?_⟩
  have p1 := PostE.lift le1 p1
  split at p1
  · have q : RelD X.K c1 (.bl true) u := r1.1
    unfold RelD at q
    exact ⟨true, q, by rw [if_pos rfl]; exact PostE.here wf1 p1 relBl⟩
  · have q : RelD X.K c1 (.bl false) u := r1.1
    unfold RelD at q
    exact ⟨false, q, by rw [if_neg Bool.false_ne_true]; exact ⟨He, c1, h1, env, rfl, wf1, re.mono le1, p1⟩⟩
  · exact False.elim p1
theorem not1_red {a : E} : ∀ σ H Q, tE X.K EW C G (.not1 a) σ H Q → tNotV (tE X.K EW C G a) σ H Q := fun σ H Q w => by
  obtain ⟨He, c, h, env, rfl, wf, re, p⟩ := w
  unfold evalE at p
  refine ⟨He, c, h, env, rfl, wf, re, p.bind fun x h1 c1 u le1 wf1 r1 p1 => ?_⟩
  have p1 := PostE.lift le1 p1
  split at p1
  · rename_i k0 _
    have q : RelD X.K c1 (.bl k0) u := r1.1
    unfold RelD at q
    exact ⟨k0, q, PostE.here wf1 p1 relBl⟩
  · exact False.elim p1
theorem ite_red {a b d : E} : ∀ σ H Q, tE X.K EW C G (.ite d a b) σ H Q → tIf (tT X.K EW C G d) (tE X.K EW C G a) (tE X.K EW C G b) σ H Q := fun σ H Q w => by
  obtain ⟨He, c, h, env, rfl, wf, re, p⟩ := w
  unfold evalE at p
  refine ⟨He, c, h, env, rfl, wf, re, p.bind fun x h1 c1 u le1 wf1 r1 p1 => ?_⟩
  have p1 := PostE.lift le1 p1
  split at p1
  · have q : RelD X.K c1 (.bl true) u := r1.1
    unfold RelD at q
    exact ⟨true, q, by show if true = true then _ else _; rw [if_pos rfl]; exact ⟨He, c1, h1, env, rfl, wf1, re.mono le1, p1⟩⟩
  · have q : RelD X.K c1 (.bl false) u := r1.1
    unfold RelD at q
    exact ⟨false, q, by show if false = true then _ else _; rw [if_neg Bool.false_ne_true]; exact ⟨He, c1, h1, env, rfl, wf1, re.mono le1, p1⟩⟩
  · exact False.elim p1
variable {a b d : Expr} {ma mb md : E} {rest : List Expr} {pos : Pos}
theorem sim_last {op : BoolOp} (ha : PE X a (tE X.K EW C G ma)) : PE X (.BoolOp op [a] pos) (tE X.K EW C G ma) := pe_one ha
theorem sim_and (ha : PE X a (tE X.K EW C G ma)) (hb : PE X (.BoolOp .And (b :: rest) pos) (tE X.K EW C G mb)) : PE X (.BoolOp .And (a :: b :: rest) pos) (tE X.K EW C G (.and2 ma mb)) := (pe_and ha hb).imp and2_red
theorem sim_or (ha : PE X a (tE X.K EW C G ma)) (hb : PE X (.BoolOp .Or (b :: rest) pos) (tE X.K EW C G mb)) : PE X (.BoolOp .Or (a :: b :: rest) pos) (tE X.K EW C G (.or2 ma mb)) := (pe_or ha hb).imp or2_red
theorem sim_not (ha : PE X a (tE X.K EW C G ma)) : PE X (.UnaryOp .Not a pos) (tE X.K EW C G (.not1 ma)) := (pe_not ha).imp not1_red
theorem sim_ite (hd : PT X d (tT X.K EW C G md)) (ha : PE X a (tE X.K EW C G ma)) (hb : PE X b (tE X.K EW C G mb)) : PE X (.IfExp d a b pos) (tE X.K EW C G (.ite md ma mb)) := (pe_ifExp hd ha hb).imp ite_red
theorem tE_mono {m : E} {σ : L2.St} {H : Hp} {Q Q' : VK} (w : tE X.K EW C G m σ H Q) (k : ∀ v H', Q v H' → Q' v H') : tE X.K EW C G m σ H Q' := by
  obtain ⟨He, c, h, env, e, wf, re, p⟩ := w
  refine ⟨He, c, h, env, e, wf, re, ?_⟩
  cases q : evalE C G m env h with
  | bad => rw [q] at p; exact p
  | ok r h' => rw [q] at p; exact fun c' v l w' rr => k v _ (p c' v l w' rr)
  | ex x h' => rw [q] at p; exact p
theorem tst_last {op : BoolOp} (ha : PT X a (tT X.K EW C G ma)) : PW X (.BoolOp op [a] pos) (tT X.K EW C G ma) := by
  cases op with
  | And => exact pw_and1 ha
  | Or => exact pw_or1 ha
theorem tst_and (ha : PT X a (tT X.K EW C G ma)) (hb : PW X (.BoolOp .And (b :: rest) pos) (tT X.K EW C G mb)) : PW X (.BoolOp .And (a :: b :: rest) pos) (tT X.K EW C G (.and2 ma mb)) :=
  (pw_and ha hb).imp fun σ H Q w => by
    refine tE_mono (and2_red σ H _ w) fun v H' q => ?_
    obtain ⟨k, e, q⟩ := q
    refine ⟨k, e, ?_⟩
    cases k with
    | true => rw [if_pos rfl] at q ⊢; exact q
    | false =>
      rw [if_neg Bool.false_ne_true] at q ⊢
      obtain ⟨k', e', q⟩ := q
      cases e'
      exact q
theorem tst_or (ha : PT X a (tT X.K EW C G ma)) (hb : PW X (.BoolOp .Or (b :: rest) pos) (tT X.K EW C G mb)) : PW X (.BoolOp .Or (a :: b :: rest) pos) (tT X.K EW C G (.or2 ma mb)) :=
  (pw_or ha hb).imp fun σ H Q w => by
    refine tE_mono (or2_red σ H _ w) fun v H' q => ?_
    obtain ⟨k, e, q⟩ := q
    refine ⟨k, e, ?_⟩
    cases k with
    | false => rw [if_neg Bool.false_ne_true] at q ⊢; exact q
    | true =>
      rw [if_pos rfl] at q ⊢
      obtain ⟨k', e', q⟩ := q
      cases e'
      exact q
theorem tst_not (ha : PT X a (tT X.K EW C G ma)) : PT X (.UnaryOp .Not a pos) (tT X.K EW C G (.not1 ma)) :=
  (pt_not ha).imp fun σ H Q w => by
    refine tE_mono (not1_red σ H _ w) fun v H' q => ?_
    obtain ⟨k, e, q⟩ := q
    refine ⟨k, e, ?_⟩
    obtain ⟨k', e', q⟩ := q
    cases e'
    exact q
end
end Mi
/-! MiRp: repr of data with empty dicts in it. -/
namespace Mi
open PySem PySem.Spec PyProof.Rows L2
mutual
inductive Dq (K : PySem.W.Frag) (H : Hp) : V → PyData → Prop
  | qnon : Dq K H .non .none
  | qbl (b : Bool) : Dq K H (.bl b) (.bool b)
  | qint (i : Int) : Dq K H (.int i) (.int i)
  | qstr (x : Str) : Dq K H (.str x) (.str x)
  | qlst {a : Addr} {xs : List V} {ps : List PyData} (q : SqL K H a xs) (r : Dqs K H xs ps) : Dq K H (.ref a) (.list ps)
  | qtup {a : Addr} {xs : List V} {ps : List PyData} (q : SqT K H a xs) (r : Dqs K H xs ps) : Dq K H (.ref a) (.tuple ps)
  | qdct {a : Addr} (q : H a = some (.dK [])) : Dq K H (.ref a) (.dict [])
inductive Dqs (K : PySem.W.Frag) (H : Hp) : List V → List PyData → Prop
  | qnil : Dqs K H [] []
  | qcons {v : V} {vs : List V} {p : PyData} {ps : List PyData} (q : Dq K H v p) (r : Dqs K H vs ps) : Dqs K H (v :: vs) (p :: ps)
end
section
variable {X : Cx} {pins : List (Addr × Obj)} {σ : L2.St} {H : Hp} {s : Shared}
theorem dict_reads (I : Inv X pins σ H s) {a : Addr} (e : H a = some (.dK [])) : (a == sysModules) = false ∧ ∃ o es ep, s.heap.get? a = some o ∧ o.cls = .type "dict" ∧ o.data = .dict es ep ∧ es.toList = [] := by
  obtain ⟨_, hd, vs, rel, o, es, ep, ho, hc, hda, _, pr, _⟩ := dk_of I.hok e
  cases rel
  refine ⟨hd, o, es, ep, ho, hc.1, hda, ?_⟩
  generalize es.toList = l at pr
  cases pr
  rfl
mutual
theorem dq_reads (I : Inv X pins σ H s) : ∀ (p : PyData) (v : V) (u : Value), Dq X.K H v p → RelV v u → ∃ as, Reads s.heap u p as
  | .none, _, _, h, r => by
    cases h; cases r
    exact ⟨_, Reads.none⟩
  | .bool b, _, _, h, r => by
    cases h; cases r
    exact ⟨_, Reads.bool b⟩
  | .int i, _, _, h, r => by
    cases h
    obtain ⟨t, rfl⟩ := r
    exact ⟨_, Reads.int i t⟩
  | .str x, _, _, h, r => by
    cases h
    obtain ⟨t, rfl⟩ := r
    exact ⟨_, Reads.str x t⟩
  | .list ps, _, _, h, r => by
    cases h with
    | qlst q h2 =>
      cases r
      obtain ⟨its, rv, ⟨o, n, ho, hc, _, hd⟩, _⟩ := I.list q
      obtain ⟨as, hr⟩ := dqs_reads I ps _ its h2 rv
      exact ⟨_, Reads.list ho hc hd hr⟩
  | .tuple ps, _, _, h, r => by
    cases h with
    | qtup q h2 =>
      cases r
      obtain ⟨its, rv, ⟨o, ho, hc, n, hd⟩, _⟩ := I.tuple q
      obtain ⟨as, hr⟩ := dqs_reads I ps _ its h2 rv
      exact ⟨_, Reads.tuple ho hc hd hr⟩
  | .dict _, _, _, h, r => by
    cases h with
    | qdct q =>
      cases r
      obtain ⟨_, o, es, ep, ho, hc, hd, e0⟩ := dict_reads I q
      exact ⟨_, Reads.dict (as := []) (bs := []) ho hc hd (by rw [e0]; exact .nil) (by rw [e0]; exact .nil)⟩
theorem dqs_reads (I : Inv X pins σ H s) : ∀ (ps : List PyData) (vs : List V) (us : List Value), Dqs X.K H vs ps → Vals vs us → ∃ as, ReadsAll s.heap us ps as
  | [], _, _, h, r => by
    cases h; cases r
    exact ⟨_, .nil⟩
  | p :: ps, _, _, h, r => by
    cases h with
    | qcons h1 h2 =>
      cases r with
      | cons r1 r2 =>
        obtain ⟨as, a⟩ := dq_reads I p _ _ h1 r1
        obtain ⟨bs, b⟩ := dqs_reads I ps _ _ h2 r2
        exact ⟨_, .cons a b⟩
end
mutual
/-- its text, whatever stands around it -/
theorem dq_text (I : Inv X pins σ H s) : ∀ (p : PyData) (v : V) (u : Value), Dq X.K H v p → RelV v u → p.showable = true → p.shown.length ≤ sizeLine → ∃ bs, ReadAtMost s.heap p.depth bs ∧ ReprK X.prog X.w bs s.heap p.depth u p.shown
  | .none, _, _, h, r, _, _ => by
    cases h; cases r
    refine ⟨[], nofun, ?_⟩
    simp only [PyData.shown]; exact .of_is ReprIs.none _ _ _
  | .bool b, _, _, h, r, _, _ => by
    cases h; cases r
    refine ⟨[], nofun, ?_⟩
    simp only [PyData.shown]; exact .of_is (ReprIs.bool b) _ _ _
  | .int i, _, _, h, r, hs, _ => by
    cases h
    obtain ⟨t, rfl⟩ := r
    refine ⟨[], nofun, ?_⟩
    simp only [PyData.shown]; exact .of_is (ReprIs.int t (by simpa [PyData.showable] using hs)) _ _ _
  | .str x, _, _, h, r, _, hz => by
    cases h
    obtain ⟨t, rfl⟩ := r
    refine ⟨[], nofun, ?_⟩
    simp only [PyData.shown]; exact .of_is (ReprIs.str x t (by simpa only [PyData.shown] using hz)) _ _ _
  | .list ps, v, u, h, r, hs, hz => by
    obtain ⟨as0, rd⟩ := dq_reads I _ _ _ h r
    cases h with
    | qlst q h2 =>
      cases r
      rename_i a xs
      have zz : (listText (PyData.shownAll ps)).length ≤ sizeLine := by simpa only [PyData.shown] using hz
      obtain ⟨its, rv, ⟨o, n, ho, hc, _, hd⟩, _⟩ := I.list q
      obtain ⟨bs, hb, hk⟩ := dqs_text I ps _ its h2 rv (by simpa [PyData.showable] using hs) fun t ht => Nat.le_trans (listText_mem_le ht) zz
      have na : a ∉ bs := not_mem_of_deeper rd (by simp only [PyData.depth]; omega) hb
      refine ⟨a :: bs, ReadAtMost.cons rd (by simp only [PyData.depth]; omega) hb, ?_⟩
      simp only [PyData.depth, PyData.shown]
      cases its with
      | nil =>
        cases rv
        cases h2
        simp only [PyData.shownAll, listText_nil]
        exact ReprK.listEmpty ho hc hd
      | cons x l => exact ReprK.list ho hc hd na (by simpa using hk.length_eq) fun i y e => hk.item i y (by simpa using e)
  | .tuple ps, v, u, h, r, hs, hz => by
    obtain ⟨as0, rd⟩ := dq_reads I _ _ _ h r
    cases h with
    | qtup q h2 =>
      cases r
      rename_i a xs
      have zz : (tupleText (PyData.shownAll ps)).length ≤ sizeLine := by simpa only [PyData.shown] using hz
      obtain ⟨its, rv, ⟨o, ho, hc, n, hd⟩, _⟩ := I.tuple q
      obtain ⟨bs, hb, hk⟩ := dqs_text I ps _ its h2 rv (by simpa [PyData.showable] using hs) fun t ht => Nat.le_trans (tupleText_mem_le ht) zz
      have na : a ∉ bs := not_mem_of_deeper rd (by simp only [PyData.depth]; omega) hb
      refine ⟨a :: bs, ReadAtMost.cons rd (by simp only [PyData.depth]; omega) hb, ?_⟩
      simp only [PyData.depth, PyData.shown]
      exact ReprK.tuple ho hc hd na hk
  | .dict kvs, v, u, h, r, _, _ => by
    obtain ⟨as0, rd⟩ := dq_reads I _ _ _ h r
    cases h with
    | @qdct a q =>
      cases r
      obtain ⟨lo, o, es, ep, ho, hc, hd, e0⟩ := dict_reads I q
      have na : a ∉ ([] : List Addr) := nofun
      refine ⟨[a], ReadAtMost.cons rd (Nat.le_refl _) nofun, ?_⟩
      simp only [PyData.depth, PyData.shown, PyData.shownKv_eq]
      refine ReprK.dict (as := []) ho hc hd lo na ?_
      have := ReprEntriesK.of_two (prog := X.prog) (w := X.w) (as := []) (h₀ := s.heap) (d := PyData.depthKv []) es.toList [] []
      rw [e0] at this ⊢
      exact this .nil .nil
theorem dqs_text (I : Inv X pins σ H s) : ∀ (ps : List PyData) (vs : List V) (us : List Value), Dqs X.K H vs ps → Vals vs us → PyData.showableAll ps = true → (∀ t ∈ PyData.shownAll ps, t.length ≤ sizeLine) →
    ∃ bs, ReadAtMost s.heap (PyData.depthAll ps) bs ∧ ReprAllK X.prog X.w bs s.heap (PyData.depthAll ps) us (PyData.shownAll ps)
  | [], _, _, h, r, _, _ => by
    cases h; cases r
    refine ⟨[], nofun, ?_⟩
    simp only [PyData.shownAll]; exact .nil
  | p :: ps, _, _, h, r, hs, hz => by
    cases h with
    | qcons h1 h2 =>
      cases r with
      | cons r1 r2 =>
        have hh : p.showable = true ∧ PyData.showableAll ps = true := by simpa [PyData.showableAll] using hs
        obtain ⟨b1, hb1, k1⟩ := dq_text I p _ _ h1 r1 hh.1 (hz _ (by simp only [PyData.shownAll]; exact List.mem_cons_self))
        obtain ⟨b2, hb2, k2⟩ := dqs_text I ps _ _ h2 r2 hh.2 fun t ht => hz t (by simp only [PyData.shownAll]; exact List.mem_cons_of_mem _ ht)
        refine ⟨b1 ++ b2, fun b hm => ?_, ?_⟩
        · simp only [PyData.depthAll]
          rcases List.mem_append.mp hm with hm | hm
          · obtain ⟨d1, a1, r1, l1⟩ := hb1 b hm
            exact ⟨d1, a1, r1, Nat.le_trans l1 (Nat.le_max_left _ _)⟩
          · obtain ⟨d1, a1, r1, l1⟩ := hb2 b hm
            exact ⟨d1, a1, r1, Nat.le_trans l1 (Nat.le_max_right _ _)⟩
        · simp only [PyData.depthAll, PyData.shownAll]
          exact .cons ((k1.more fun b hb => List.mem_append_left _ hb).level_le (Nat.le_max_left _ _)) (k2.more_le (fun b hb => List.mem_append_right _ hb) (Nat.le_max_right _ _))
end
/-- repr of data, with empty dicts in it -/
def rReprG (K : PySem.W.Frag) : List V → Hp → VK → Prop := fun xs H Q => ∃ x p, xs = [x] ∧ Dq K H x p ∧ p.showable = true ∧ p.shown.length ≤ sizeLine ∧ p.depth ≤ 64 ∧ Q (.str p.shown) H
theorem call_reprG (hu : X.A.units + 200 < cLine) (hg : X.A.guards = some []) : CallR X (.builtin "repr") (rReprG X.K) := by
  intro pins s σ H xs us Q I r h
  obtain ⟨x, p, rfl, dp, h1, h3, h4, q⟩ := h
  obtain ⟨u, rfl, ru⟩ := Vals.one r
  obtain ⟨as0, rd⟩ := dq_reads I p x u dp ru
  have hin : X.A.in1.guards = some [] := hg
  have hun : X.A.in1.units + p.depth < cLine := by show X.A.units + 1 + p.depth < cLine; omega
  cases dp with
  | qnon => cases ru; exact PySem.P.repr_of_none ⟨.str _, H, I.tok _, ⟨_, rfl⟩, q⟩
  | qbl b =>
    cases ru
    refine PySem.P.repr_of_bool ⟨.str _, H, I.tok _, ⟨_, rfl⟩, ?_⟩
    simpa only [PyData.shown] using q
  | qint i =>
    obtain ⟨t, rfl⟩ := ru
    refine PySem.P.repr_of_int (by simpa only [PyData.showable, decide_eq_true_eq] using h1) ⟨.str _, H, I.tok _, ⟨_, rfl⟩, ?_⟩
    simpa only [PyData.shown] using q
  | qstr y =>
    obtain ⟨t, rfl⟩ := ru
    refine PySem.P.repr_of_str ⟨.str _, H, I.tok _, ⟨_, rfl⟩, ?_⟩ (by simpa only [PyData.shown] using h3)
    simpa only [PyData.shown] using q
  | @qlst a xs ps q1 q2 =>
    cases ru
    have zz : (listText (PyData.shownAll ps)).length ≤ sizeLine := by simpa only [PyData.shown] using h3
    obtain ⟨its, rv, ⟨o, n, ho, hc, _, hd⟩, _⟩ := I.list q1
    obtain ⟨bs, hb, hk⟩ := dqs_text I ps _ its q2 rv (by simpa [PyData.showable] using h1) fun t ht => Nat.le_trans (listText_mem_le ht) zz
    have na : a ∉ bs := not_mem_of_deeper rd (by simp only [PyData.depth]; omega) hb
    simp only [PyData.depth] at hun
    refine call_repr_slot (by omega) ⟨o, ho, hc⟩ PySem.F.slot_list_repr.toG ?_
    cases its with
    | nil =>
      cases rv
      cases q2
      exact call_list_repr_empty ⟨o, ho, hc⟩ ho hd ⟨_, _, rfl, .str _, H, I.tok _, ⟨_, rfl⟩, by simpa only [PyData.shown, PyData.shownAll, listText_nil] using q⟩
    | cons x l =>
      exact call_list_reprK ho hc hd na (by simpa using hk.length_eq) (fun i y e => hk.item i y (by simpa using e)) hin (fun b _ => Clear.nil b) hun (fun _ _ e => e)
        (fun h' t tk hk2 => ⟨_, _, rfl, .str _, H, I.kept (h' := h') (t' := tk) hk2, ⟨_, rfl⟩, by simpa only [PyData.shown] using q⟩) zz
  | @qtup a xs ps q1 q2 =>
    cases ru
    have zz : (tupleText (PyData.shownAll ps)).length ≤ sizeLine := by simpa only [PyData.shown] using h3
    obtain ⟨its, rv, ⟨o, ho, hc, n, hd⟩, _⟩ := I.tuple q1
    obtain ⟨bs, hb, hk⟩ := dqs_text I ps _ its q2 rv (by simpa [PyData.showable] using h1) fun t ht => Nat.le_trans (tupleText_mem_le ht) zz
    have na : a ∉ bs := not_mem_of_deeper rd (by simp only [PyData.depth]; omega) hb
    simp only [PyData.depth] at hun
    refine call_repr_slot (by omega) ⟨o, ho, hc⟩ PySem.F.slot_tuple_repr ?_
    exact call_tuple_reprK ho hc hd na hk hin (fun b _ => Clear.nil b) hun (fun _ _ e => e)
      (fun h' t tk hk2 => ⟨_, _, rfl, .str _, H, I.kept (h' := h') (t' := tk) hk2, ⟨_, rfl⟩, by simpa only [PyData.shown] using q⟩) zz
  | @qdct a q1 =>
    cases ru
    obtain ⟨lo, o, es, ep, ho, hc, hd, e0⟩ := dict_reads I q1
    have na : sysModules ∉ (a :: [] ++ [] : List Addr) := by
      intro m
      simp only [List.cons_append, List.nil_append, List.mem_singleton] at m
      rw [← m] at lo
      simp at lo
    have rd : Reads s.heap (.ref a) (.dict []) (a :: [] ++ []) := Reads.dict ho hc hd (by rw [e0]; exact .nil) (by rw [e0]; exact .nil)
    exact repr_of_reads' rd rfl (fun _ => na) hg (by show X.A.units + (PyData.depth (.dict []) + 1) < cLine; simp only [PyData.depth, PyData.depthKv]; omega) (fun _ _ e => e) (fun h' t tk hk => ⟨.str _, H, I.kept (h' := h') (t' := tk) hk, ⟨_, rfl⟩, q⟩) (by decide +kernel)
end
end Mi
/-! Mi4: arguments, displays, built-ins, places, comprehensions. -/
namespace Mi
open PySem PySem.Spec PyProof.Rows L2
variable [Tb]

section
variable {X : Cx} {EW : EWish} {C : Calls'} {G : Str → Option D}
/-! ### arguments -/
theorem args_nil : PA X [] (tA X.K EW C G .nil) := pa_nil.imp fun σ H Q w => by
  obtain ⟨He, c, h, env, rfl, wf, re, p⟩ := w
  unfold evalEs at p
  exact p c [] (Le.refl c) wf RelDs.nil
theorem args_cons {e : Expr} {es : List Expr} {m : E} {ms : Es} (he : PE X e (tE X.K EW C G m)) (hes : PA X es (tA X.K EW C G ms)) (hs : starEach (e :: es) X.env = (false, eval e X.env) :: starEach es X.env := by rfl) :
    PA X (e :: es) (tA X.K EW C G (.cons m ms)) := (pa_cons he hes hs).imp fun σ H Q w => by
  obtain ⟨He, c, h, env, rfl, wf, re, p⟩ := w
  unfold evalEs at p
  refine ⟨He, c, h, env, rfl, wf, re, p.bind fun x h1 c1 u le1 wf1 r1 p1 => ?_⟩
  cases e : x.fz with
  | none => rw [e] at p1; exact False.elim p1
  | some d =>
    rw [e] at p1
    obtain ⟨c2, eH, le2, st2, wf2, r2⟩ := freeze_ans le1 wf1 r1 e
    have p2 := Post.lift le2 (fun _ _ _ h => h) p1
    refine ⟨He, c2, h1, env, eH, wf2, re.mono le2, Post.bind (Rl1 := RA X.K) p2 fun ds h2 c3 vs le3 wf3 r3 p3 => ?_⟩
    exact p3 c3 (u :: vs) le3 wf3 (RelDs.cons (RelD.mono le3.toSta _ _ r2) r3)
/-! ### displays -/
theorem sim_tup {es : List Expr} {ms : Es} {k : Nat} {pos : Pos} (hes : PA X es (tA X.K EW C G ms)) : PE X (.Tuple es k pos) (tE X.K EW C G (.tup ms)) := (pe_tup hes).imp fun σ H Q w => by
  obtain ⟨He, c, h, env, rfl, wf, re, p⟩ := w
  unfold evalE at p
  refine ⟨He, c, h, env, rfl, wf, re, p.bind fun ds h1 c1 vs le1 wf1 r1 p1 => ?_⟩
  split at p1
  · rename_i hz
    exact ⟨by rw [← RelDs.length r1]; exact hz, fun q hq => PostE.newT wf1 hq r1 (PostE.lift le1 p1)⟩
  · exact False.elim p1
theorem sim_lst {es : List Expr} {ms : Es} {pos : Pos} (hes : PA X es (tA X.K EW C G ms)) : PE X (.List es pos) (tE X.K EW C G (.lst ms)) := (pe_lst hes).imp fun σ H Q w => by
  obtain ⟨He, c, h, env, rfl, wf, re, p⟩ := w
  unfold evalE at p
  refine ⟨He, c, h, env, rfl, wf, re, p.bind fun ds h1 c1 vs le1 wf1 r1 p1 => ?_⟩
  split at p1
  · rename_i hz
    exact ⟨by rw [← RelDs.length r1]; exact hz, fun q hq => PostE.newL wf1 hq r1 (PostE.lift le1 p1)⟩
  · exact False.elim p1
theorem sim_promo {e : Expr} {m : E} (he : PE X e (tE X.K EW C G m)) : PE X e (tE X.K EW C G (.promo m)) := he.imp fun σ H Q w => by
  obtain ⟨He, c, h, env, rfl, wf, re, p⟩ := w
  unfold evalE at p
  refine ⟨He, c, h, env, rfl, wf, re, p.bind fun x h1 c1 u le1 wf1 r1 p1 => ?_⟩
  split at p1
  · rename_i l
    obtain ⟨⟨a, vs, rfl, g1, g2, g3, g4⟩, g5⟩ := r1
    have wf2 := grow_wf (o := .lst l) wf1 ⟨vs, g1, g4⟩ g2 g3
    refine p1 (c1.grow a) (.ref a) (grow_le le1 g5) wf2 ⟨?_, True.intro⟩
    show RelD X.K _ (.ref _) _
    unfold RelD
    rw [← wf1.sz]
    exact ⟨Nat.lt_succ_self _, by rw [grow_n]⟩
  · exact p1 c1 u le1 wf1 r1
  · exact False.elim p1
/-! ### built-in functions -/
def BltPrim (X : Cx) (EW : EWish) (f : Blt) (r : List V → Hp → VK → Prop) : Prop :=
  ∀ (c : Cfg) (h : Hh) (ds : List D) (vs : List V) (Q : VK), WF X.K c h → RelDs X.K c ds vs → PostE X.K EW c Q (Res.of h (bltF h f ds)) → r vs c.H Q
theorem blt_red {f : Blt} {r : List V → Hp → VK → Prop} (pr : BltPrim X EW f r) {ms : Es} : ∀ σ H Q, tE X.K EW C G (.blt f ms) σ H Q → tCB r (tA X.K EW C G ms) σ H Q := fun σ H Q w => by
  obtain ⟨He, c, h, env, rfl, wf, re, p⟩ := w
  unfold evalE at p
  refine ⟨He, c, h, env, rfl, wf, re, p.bind fun ds h1 c1 vs le1 wf1 r1 p1 => ?_⟩
  exact pr c1 h1 ds vs Q wf1 r1 (PostE.lift le1 p1)
/-- a built-in function, a built-in class called -/
structure BltRule (X : Cx) (EW : EWish) (v : Value) (f : Blt) where
  r : List V → Hp → VK → Prop
  rule : CallR X v r
  prim : BltPrim X EW f r
theorem sim_blt {id : String} {f : Blt} (R : BltRule X EW (.builtin id) f) {x : Str} {e : Expr} {es : List Expr} {ms : Es} {p pos : Pos} (ha : PA X (e :: es) (tA X.K EW C G ms)) (hm : X.mg x = none) (hv : bootBuiltins x = some (.builtin id)) (hg : Gl X x := by rfl)
    (hn : x ≠ "__name__" := by decide) (hdb : (x == ("__debug__" : Str)) = false := by decide) (he : starEach (e :: es) X.env = (false, eval e X.env) :: starEach es X.env := by rfl) (hpl : (backTo pos (starEach es X.env)).any (·.1) = false := by rfl) :
    PE X (.Call (.Name x p) (e :: es) [] pos) (tE X.K EW C G (.blt f ms)) := (pe_callB R.rule hg hm hv ha hn hdb he hpl).imp (blt_red R.prim)
theorem sim_bltT {id : String} {f : Blt} (R : BltRule X EW (.type id) f) {x : Str} {e : Expr} {es : List Expr} {ms : Es} {p pos : Pos} (ha : PA X (e :: es) (tA X.K EW C G ms)) (hm : X.mg x = none) (hv : bootBuiltins x = some (.type id)) (hg : Gl X x := by rfl)
    (hn : x ≠ "__name__" := by decide) (hdb : (x == ("__debug__" : Str)) = false := by decide) (he : starEach (e :: es) X.env = (false, eval e X.env) :: starEach es X.env := by rfl) (hpl : (backTo pos (starEach es X.env)).any (·.1) = false := by rfl) :
    PE X (.Call (.Name x p) (e :: es) [] pos) (tE X.K EW C G (.blt f ms)) := (pe_callTy R.rule hg hm hv ha hn hdb he hpl).imp (blt_red R.prim)
theorem one_arg {c : Cfg} {d : D} {vs : List V} (h : RelDs X.K c [d] vs) : ∃ v, vs = [v] ∧ RelD X.K c d v := by
  unfold RelDs at h
  obtain ⟨v, r, rfl, h1, h2⟩ := h
  unfold RelDs at h2
  subst h2
  exact ⟨v, rfl, h1⟩
def br_len : BltRule X EW (.builtin "len") .len := ⟨_, call_len, fun c h ds vs Q wf r p => by
  replace p : PostE X.K EW c Q (Res.of h (lenF h ds)) := p
  unfold lenF at p
  split at p
  · rename_i s
    split at p
    · rename_i hz
      obtain ⟨v, rfl, r1⟩ := one_arg r
      unfold RelD at r1
      subst r1
      exact ⟨.str s, s.length, rfl, ⟨hz, rfl⟩, PostE.here wf p relInt⟩
    · exact False.elim p
  · rename_i d _
    cases e : sv h (.dat d) with
    | none => rw [e] at p; exact False.elim p
    | some l =>
      rw [e] at p
      obtain ⟨v, rfl, r1⟩ := one_arg r
      obtain ⟨a, xs, rfl, e2, e3⟩ := sv_rel wf (r := .dat d) r1 e
      refine ⟨.ref a, xs.length, rfl, ?_, by rw [← RelDs.length e3]; exact PostE.here wf p relInt⟩
      rcases e2 with e2 | e2
      · exact .inl ⟨xs, e2, rfl⟩
      · exact .inr ⟨xs, e2, rfl⟩
  · exact False.elim p⟩
theorem bools_rel {c : Cfg} : ∀ {l : List D} {vs : List V} {bs : List Bool}, RelDs X.K c l vs → boolsOf l = some bs → vs = bs.map V.bl
  | [], vs, bs, h, e => by unfold RelDs at h; unfold boolsOf at e; cases e; exact h
  | d :: l, vs, bs, h, e => by
    unfold RelDs at h
    obtain ⟨v, r, rfl, h1, h2⟩ := h
    cases d with
    | bl b =>
      unfold boolsOf at e
      cases q : boolsOf l with
      | none => rw [q] at e; cases e
      | some bs' =>
        rw [q] at e; cases e
        unfold RelD at h1
        rw [h1, bools_rel h2 q] <;> rfl
    | _ => unfold boolsOf at e; cases e
def br_all (hc : X.calm = true) : BltRule X EW (.builtin "all") .all := ⟨_, cr_all hc, fun c h ds vs Q wf r p => by
  replace p : PostE X.K EW c Q (Res.of h (allF ds)) := p
  unfold allF at p
  split at p
  · rename_i l
    cases e : boolsOf l with
    | none => rw [e] at p; exact False.elim p
    | some bs =>
      rw [e] at p
      obtain ⟨v, rfl, r1⟩ := one_arg r
      unfold RelD at r1
      obtain ⟨a, xs, rfl, _, e2, e3⟩ := r1
      exact ⟨a, bs, rfl, by rw [← bools_rel e3 e]; exact .inl (.inl e2), PostE.here wf p relBl⟩
  · exact False.elim p⟩
/-- repr of data -/
def rRepr (K : PySem.W.Frag) : List V → Hp → VK → Prop := fun xs H Q => ∃ x p, xs = [x] ∧ Dp K H x p ∧ p.showable = true ∧ p.hasDict = false ∧ p.shown.length ≤ sizeLine ∧ p.depth ≤ 64 ∧ Q (.str p.shown) H
theorem call_reprD (hu : X.A.units + 200 < cLine) (hg : X.A.guards = some []) : CallR X (.builtin "repr") (rRepr X.K) := by
  intro pins s σ H xs us Q I r h
  obtain ⟨x, p, rfl, dp, h1, h2, h3, h4, q⟩ := h
  obtain ⟨u, rfl, ru⟩ := Vals.one r
  obtain ⟨as, rd⟩ := Dp.reads I p x u dp ru
  cases dp with
  | non => cases ru; exact PySem.P.repr_of_none ⟨.str _, H, I.tok _, ⟨_, rfl⟩, q⟩
  | bl b =>
    cases ru
    refine PySem.P.repr_of_bool ⟨.str _, H, I.tok _, ⟨_, rfl⟩, ?_⟩
    simpa only [PyData.shown] using q
  | int i =>
    obtain ⟨t, rfl⟩ := ru
    refine PySem.P.repr_of_int (by simpa only [PyData.showable, decide_eq_true_eq] using h1) ⟨.str _, H, I.tok _, ⟨_, rfl⟩, ?_⟩
    simpa only [PyData.shown] using q
  | str y =>
    obtain ⟨t, rfl⟩ := ru
    refine PySem.P.repr_of_str ⟨.str _, H, I.tok _, ⟨_, rfl⟩, ?_⟩ (by simpa only [PyData.shown] using h3)
    simpa only [PyData.shown] using q
  | lst _ _ =>
    cases ru
    exact repr_of_reads' rd h1 (PyData.noDict_hsm h2) hg (by omega) (fun _ _ e => e) (fun h' t tk hk => ⟨.str _, H, I.kept (h' := h') (t' := tk) hk, ⟨_, rfl⟩, q⟩) h3
  | tup _ _ =>
    cases ru
    exact repr_of_reads' rd h1 (PyData.noDict_hsm h2) hg (by omega) (fun _ _ e => e) (fun h' t tk hk => ⟨.str _, H, I.kept (h' := h') (t' := tk) hk, ⟨_, rfl⟩, q⟩) h3
mutual
theorem dq_of {K : PySem.W.Frag} {c : Cfg} {h : Hh} (wf : WF K c h) : ∀ (d : D) (v : V) (p : PyData), RelD K c d v → d.pyE h = some p → Dq K c.H v p
  | .non, v, p, r, e => by simp only [D.pyE, Option.some.injEq] at e; subst e; unfold RelD at r; subst r; exact .qnon
  | .bl b, v, p, r, e => by simp only [D.pyE, Option.some.injEq] at e; subst e; unfold RelD at r; subst r; exact .qbl b
  | .int i, v, p, r, e => by simp only [D.pyE, Option.some.injEq] at e; subst e; unfold RelD at r; subst r; exact .qint i
  | .str z, v, p, r, e => by simp only [D.pyE, Option.some.injEq] at e; subst e; unfold RelD at r; subst r; exact .qstr z
  | .tup l, v, p, r, e => by
    unfold RelD at r
    obtain ⟨a, vs, rfl, h1, h2⟩ := r
    simp only [D.pyE] at e
    cases q : pyAllE h l with
    | none => rw [q] at e; cases e
    | some ps => rw [q] at e; cases e; exact .qtup h1 (dqs_of wf l vs ps h2 q)
  | .lst l, v, p, r, e => by
    unfold RelD at r
    obtain ⟨a, vs, rfl, _, h1, h2⟩ := r
    simp only [D.pyE] at e
    cases q : pyAllE h l with
    | none => rw [q] at e; cases e
    | some ps => rw [q] at e; cases e; exact .qlst (.inl (.inl h1)) (dqs_of wf l vs ps h2 q)
  | .arg _, _, _, _, e => by simp [D.pyE] at e
  | .sp _ _ _, _, _, _, e => by simp [D.pyE] at e
  | .ref n, v, p, r, e => by
    unfold RelD at r
    obtain ⟨_, rfl⟩ := r
    simp only [D.pyE] at e
    cases q : h[n]? with
    | none => simp [q] at e
    | some o =>
      cases o with
      | lst l => simp [q] at e
      | dct l =>
        cases l with
        | cons a l => simp [q] at e
        | nil =>
          simp only [q, Option.some.injEq] at e
          subst e
          have := wf.obj n _ q
          unfold RelO at this
          obtain ⟨kvs, e1, e2⟩ := this
          unfold RelKv at e2
          subst e2
          exact .qdct e1
theorem dqs_of {K : PySem.W.Frag} {c : Cfg} {h : Hh} (wf : WF K c h) : ∀ (l : List D) (vs : List V) (ps : List PyData), RelDs K c l vs → pyAllE h l = some ps → Dqs K c.H vs ps
  | [], vs, ps, r, e => by
    simp only [pyAllE, Option.some.injEq] at e; subst e
    unfold RelDs at r; subst r; exact .qnil
  | d :: l, vs, ps, r, e => by
    unfold RelDs at r
    obtain ⟨v, rs, rfl, h1, h2⟩ := r
    simp only [pyAllE] at e
    cases q1 : d.pyE h with
    | none => rw [q1] at e; cases e
    | some x =>
      cases q2 : pyAllE h l with
      | none => rw [q1, q2] at e; cases e
      | some xs => rw [q1, q2] at e; cases e; exact .qcons (dq_of wf d v x h1 q1) (dqs_of wf l rs xs h2 q2)
end
theorem reprE_red {c : Cfg} {h : Hh} {d : D} {v : V} {Q : VK} (wf : WF X.K c h) (r : RelD X.K c d v) (p : PostE X.K EW c Q (Res.of h (reprE h d))) : rReprG X.K [v] c.H Q := by
  unfold reprE at p
  split at p
  · rename_i y e
    split at p
    · rename_i hz
      simp only [Bool.and_eq_true, decide_eq_true_eq] at hz
      exact ⟨v, y, rfl, dq_of wf d v y r e, hz.1.1, hz.1.2, hz.2, PostE.here (v := V.str y.shown) wf p (relStr (X := X) (c := c))⟩
    · exact False.elim p
  · exact False.elim p
def br_repr (hu : X.A.units + 200 < cLine) (hg : X.A.guards = some []) : BltRule X EW (.builtin "repr") .repr := ⟨_, CallR.or (call_reprD hu hg) (call_reprG hu hg), fun c h ds vs Q wf r p => by
  replace p : PostE X.K EW c Q (Res.of h (reprF h ds)) := p
  unfold reprF at p
  split at p
  · rename_i d
    split at p
    · rename_i y e
      split at p
      · rename_i hz
        simp only [Bool.and_eq_true, Bool.not_eq_true', decide_eq_true_eq] at hz
        obtain ⟨v, rfl, r1⟩ := one_arg r
        exact .inl ⟨v, y, rfl, dpR_of wf (r := .dat d) r1 e, hz.1.1.1, hz.1.1.2, hz.1.2, hz.2, PostE.here wf p relStr⟩
      · exact False.elim p
    · obtain ⟨v, rfl, r1⟩ := one_arg r
      exact .inr (reprE_red wf r1 p)
  · exact False.elim p⟩
def rToInt : List V → Hp → VK → Prop := fun xs H Q => ((∃ i, xs = [.int i] ∧ Q (.int i) H) ∨ ∃ k, xs = [.bl k] ∧ Q (.int (if k then 1 else 0)) H) ∨ (∃ a n, xs = [.str a] ∧ PySem.intText? a = some n ∧ a.length ≤ 640 ∧ Q (.int n) H)
def br_int : BltRule X EW (.type "int") .toInt := ⟨rToInt, CallR.or call_int1 call_int_str, fun c h ds vs Q wf r p => by
  replace p : PostE X.K EW c Q (Res.of h (toIntF ds)) := p
  unfold toIntF at p
  split at p
  · obtain ⟨v, rfl, r1⟩ := one_arg r
    unfold RelD at r1
    subst r1
    exact .inl (.inl ⟨_, rfl, PostE.here wf p relInt⟩)
  · obtain ⟨v, rfl, r1⟩ := one_arg r
    unfold RelD at r1
    subst r1
    exact .inl (.inr ⟨_, rfl, PostE.here wf p relInt⟩)
  · split at p
    · rename_i n e
      split at p
      · rename_i hz
        obtain ⟨v, rfl, r1⟩ := one_arg r
        unfold RelD at r1
        subst r1
        exact .inr ⟨_, n, rfl, e, hz, PostE.here wf p relInt⟩
      · exact False.elim p
    · exact False.elim p
  · exact False.elim p⟩
theorem intsOf_rel {c : Cfg} : ∀ {l : List D} {ns : List Int} {vs : List V}, intsOf l = some ns → RelDs X.K c l vs → vs = ns.map V.int
  | [], ns, vs, e, r => by
    unfold RelDs at r
    cases e
    exact r
  | d :: l, ns, vs, e, r => by
    unfold RelDs at r
    obtain ⟨v, u, rfl, h1, h2⟩ := r
    cases d with
    | int i =>
      simp only [intsOf] at e
      cases q : intsOf l with
      | none => rw [q] at e; cases e
      | some ms =>
        rw [q] at e
        cases e
        unfold RelD at h1
        rw [h1, intsOf_rel q h2]
        rfl
    | _ => simp only [intsOf] at e; cases e
theorem ints_arg {c : Cfg} {h : Hh} {d : D} {v : V} {ns : List Int} (wf : WF X.K c h) (r : RelD X.K c d v) (e : intsL h d = some ns) : ∃ a, v = .ref a ∧ c.H a = some (.lst (ns.map V.int)) := by
  unfold intsL at e
  cases q : lv h (.dat d) with
  | none => rw [q] at e; cases e
  | some l =>
    rw [q] at e
    obtain ⟨a, vs, rfl, g1, g2⟩ := lv_rel (r := .dat d) wf r q
    exact ⟨a, rfl, by rw [g1, intsOf_rel e g2]⟩
theorem two_ints {c : Cfg} {i j : Int} {vs : List V} (h : RelDs X.K c [.int i, .int j] vs) : vs = [.int i, .int j] := by
  have := intsOf_rel (l := [.int i, .int j]) (ns := [i, j]) rfl h
  exact this
def br_min2 (hc : X.calm = true) : BltRule X EW (.builtin "min") .min2 := ⟨_, call_min2 hc, fun c h ds vs Q wf r p => by
  replace p : PostE X.K EW c Q (Res.of h (min2F ds)) := p
  unfold min2F at p
  split at p
  · exact ⟨_, _, two_ints r, PostE.here wf p relInt⟩
  · exact False.elim p⟩
def br_sum (hc : X.calm = true) : BltRule X EW (.builtin "sum") .sum := ⟨_, cr_sum hc, fun c h ds vs Q wf r p => by
  replace p : PostE X.K EW c Q (Res.of h (sumF h ds)) := p
  unfold sumF at p
  split at p
  · rename_i d
    obtain ⟨v, rfl, r1⟩ := one_arg r
    cases e : intsL h d with
    | none => rw [e] at p; exact False.elim p
    | some ns =>
      rw [e] at p
      obtain ⟨a, rfl, g⟩ := ints_arg wf r1 e
      exact ⟨a, ns, rfl, .inl (.inl g), PostE.here wf p relInt⟩
  · exact False.elim p⟩
section
variable {prog : Program} {w : World} {A : Around} {E : Value → Shared → Prop} {s : Shared}
end
def br_tuple : BltRule X EW (.type "tuple") .toTuple := ⟨_, call_tuple_of, fun c h ds vs Q wf r p => by
  replace p : PostE X.K EW c Q (Res.of h (toTupF h ds)) := p
  unfold toTupF at p
  split at p
  · obtain ⟨v, rfl, r1⟩ := one_arg r
    have r0 := r1
    unfold RelD at r1
    obtain ⟨a, xs, rfl, e2, e3⟩ := r1
    exact ⟨a, xs, rfl, .inr ⟨e2, PostE.here wf p r0⟩⟩
  · rename_i d _
    cases e : lv h (.dat d) with
    | none => rw [e] at p; exact False.elim p
    | some l =>
      rw [e] at p
      obtain ⟨v, rfl, r1⟩ := one_arg r
      obtain ⟨a, xs, rfl, e2, e3⟩ := lv_rel wf (r := .dat d) r1 e
      exact ⟨a, xs, rfl, .inl ⟨.inl (.inl e2), fun q hq => PostE.newT wf hq e3 p⟩⟩
  · exact False.elim p⟩
def br_list : BltRule X EW (.type "list") .toList := ⟨_, call_list_of, fun c h ds vs Q wf r p => by
  replace p : PostE X.K EW c Q (Res.of h (toLstF h ds)) := p
  unfold toLstF at p
  split at p
  · rename_i d
    cases e : sv h (.dat d) with
    | none => rw [e] at p; exact False.elim p
    | some l =>
      rw [e] at p
      obtain ⟨v, rfl, r1⟩ := one_arg r
      obtain ⟨a, xs, rfl, e2, e3⟩ := sv_rel wf (r := .dat d) r1 e
      exact ⟨a, xs, rfl, e2, fun q hq => PostE.newL wf hq e3 p⟩
  · exact False.elim p⟩
/-! ### built-ins of one thing -/
/-! ### isinstance -/
def Ty.nm : Ty → String
  | .int => "int"
  | .bool => "bool"
  | .str => "str"
  | .tuple => "tuple"
  | .list => "list"
theorem isi_ty {c : Cfg} {h : Hh} (wf : WF X.K c h) (t : Ty) : ∀ {d : D} {v : V} {b : Bool}, RelD X.K c d v → isiF h t d = some b → ∃ T : String, TyX X.K c.H v (.type T) ∧ PySem.W.kitOne X.K (.type T) (.type t.nm) = some b
  | .non, v, b, r, e => by
    unfold RelD at r; subst r; unfold isiF at e; cases e
    exact ⟨_, .base .non, by cases t <;> exact kit_ty (by decide +kernel)⟩
  | .bl x, v, b, r, e => by
    unfold RelD at r; subst r; unfold isiF at e; cases e
    exact ⟨_, .base (.bl x), by cases t <;> exact kit_ty (by decide +kernel)⟩
  | .int x, v, b, r, e => by
    unfold RelD at r; subst r; unfold isiF at e; cases e
    exact ⟨_, .base (.int x), by cases t <;> exact kit_ty (by decide +kernel)⟩
  | .str x, v, b, r, e => by
    unfold RelD at r; subst r; unfold isiF at e; cases e
    exact ⟨_, .base (.str x), by cases t <;> exact kit_ty (by decide +kernel)⟩
  | .tup l, v, b, r, e => by
    unfold RelD at r; unfold isiF at e; cases e
    obtain ⟨a, vs, rfl, h1, _⟩ := r
    refine ⟨"tuple", ?_, by cases t <;> exact kit_ty (by decide +kernel)⟩
    rcases h1 with (h1 | ⟨o, h1⟩) | ⟨o, its, n, h1, h2, _⟩
    · exact .base (.tup h1)
    · exact .fTuple h1
    · exact .kTuple h1 h2
  | .lst l, v, b, r, e => by
    unfold RelD at r; unfold isiF at e; cases e
    obtain ⟨a, vs, rfl, _, h1, _⟩ := r
    exact ⟨"list", .base (.lst h1), by cases t <;> exact kit_ty (by decide +kernel)⟩
  | .arg l, v, b, r, e => by unfold isiF at e; cases e
  | .sp _ _ _, v, b, r, e => by unfold isiF at e; cases e
  | .ref n, v, b, r, e => by
    unfold RelD at r
    simp only [isiF] at e
    obtain ⟨_, rfl⟩ := r
    split at e
    · rename_i l hl
      cases e
      obtain ⟨vs, e1, _⟩ := wf.obj n _ hl
      exact ⟨"list", .base (.lst e1), by cases t <;> exact kit_ty (by decide +kernel)⟩
    · rename_i l hl
      cases e
      obtain ⟨vs, e1, _⟩ := wf.obj n _ hl
      exact ⟨"dict", .base (.dK e1), by cases t <;> exact kit_ty (by decide +kernel)⟩
    · cases e
theorem boot_ty (t : Ty) : bootBuiltins t.nm = some (.type t.nm) := by cases t <;> decide +kernel
theorem sim_isi (t : Ty) {e : Expr} {m : E} {p p2 pos : Pos} {x2 : Str} (he : PE X e (tE X.K EW C G m)) (hm : X.mg "isinstance" = none) (hm2 : X.mg x2 = none) (hx2 : x2 = Str.ofString t.nm := by rfl) (hg : Gl X "isinstance" := by rfl) (hg2 : Gl X x2 := by rfl)
    (hn2 : x2 ≠ "__name__" := by decide) (hd2 : (x2 == ("__debug__" : Str)) = false := by decide)
    (hs : starEach [e, .Name x2 p2] X.env = (false, eval e X.env) :: starEach [.Name x2 p2] X.env := by rfl) (hs2 : starEach [.Name x2 p2] X.env = (false, eval (.Name x2 p2) X.env) :: starEach [] X.env := by rfl) (hpl : (backTo pos (starEach [.Name x2 p2] X.env)).any (·.1) = false := by rfl) :
    PE X (.Call (.Name "isinstance" p) [e, .Name x2 p2] [] pos) (tE X.K EW C G (.isi m t)) := by
  have hv : bootBuiltins x2 = some (.type t.nm) := by rw [hx2]; exact boot_ty t
  have h2 : PE X (.Name x2 p2) (tC (.ty t.nm)) := pe_bltn (v := .ty t.nm) hg2 hm2 hv rfl hn2 hd2
  refine PE.imp (pe_callB call_isi hg hm PyProof.Rows.boot_isinstance (pa_cons he (pa_cons h2 pa_nil hs2) hs) (by decide) (by decide) hs hpl) fun σ H Q w => ?_
  obtain ⟨He, c, h, env, rfl, wf, re, p⟩ := w
  unfold evalE at p
  refine ⟨He, c, h, env, rfl, wf, re, p.bind fun x h1 c1 u le1 wf1 r1 p1 => ?_⟩
  cases e1 : x.fz with
  | none => rw [e1] at p1; exact False.elim p1
  | some d =>
    rw [e1] at p1
    obtain ⟨c2, eH, le2, st2, wf2, r2⟩ := freeze_ans le1 wf1 r1 e1
    have p2 : PostE X.K EW c2 Q (Res.of h1 ((isiF h1 t d).map fun b => .dat (.bl b))) := PostE.lift le2 p1
    cases e2 : isiF h1 t d with
    | none => rw [e2] at p2; exact False.elim p2
    | some b =>
      rw [e2] at p2
      obtain ⟨T, g1, g2⟩ := isi_ty wf2 t r2 e2
      show rIsi X.K [u, .ty t.nm] c1.H Q
      rw [← eH]
      exact ⟨u, .ty t.nm, _, _, b, rfl, .ty _, g1, g2, PostE.here wf2 p2 relBl⟩
end
end Mi
/-! MiRv: x[::-1] of a tuple or a list. -/
namespace Mi
open PySem PySem.Spec PyProof.Rows L2
section
variable {prog : Program} {w : World} {A : Around} {E : Value → Shared → Prop} {s : Shared}
theorem adjust_rev (n : Nat) : Builtin.Slice.sliceAdjust none none (-1) (n : Int) = ((n : Int) - 1, -1) := rfl
theorem places_rev (n : Nat) : Builtin.Slice.slicePlaces ((n : Int) - 1) (-1) (-1) = n := by
  unfold Builtin.Slice.slicePlaces
  rw [if_neg (by decide)]
  by_cases h : (n : Int) - 1 > -1
  · rw [if_pos h, show (-(-1) : Int) = 1 from rfl, Int.ediv_one]; omega
  · rw [if_neg h]
    have : n = 0 := by omega
    subst this; rfl
theorem sliceApplied_rev {sl : Addr} {vl vu vs : Value} {n : Nat} {Q : Int × Int × Nat → Shared → Prop} (hs : s.heap.IsSliceOf sl vl vu vs) (pl : IsPart vl none) (pu : IsPart vu none) (ps : IsPart vs (some (-1)))
    (h : Q ((n : Int) - 1, -1, n) s) : wpAny (model prog w) A (Builtin.Slice.sliceApplied (.ref sl) (pure (n : Int))) Q E s := by
  obtain ⟨os, hos, hcs, hds⟩ := id hs
  unfold Builtin.Slice.sliceApplied Builtin.Slice.sliceFields
  refine wpAny_bind (wpAny_bind (wpAny_field hos hds (x := vl) rfl (wpAny_bind (wpAny_field hos hds (x := vu) rfl (wpAny_bind (wpAny_field hos hds (x := vs) rfl (wpAny_pure ?_)))))))
  refine wpAny_bind (HT.slicePart_ ps ?_)
  show wpAny _ _ (if ((-1 : Int) == 0) = true then _ else _) _ _ s
  rw [if_neg (by decide)]
  refine wpAny_bind (HT.slicePart_ pl (wpAny_bind (HT.slicePart_ pu (wpAny_bind (wpAny_pure ?_)))))
  show wpAny _ _ (match Builtin.Slice.sliceAdjust none none (-1) (n : Int) with | (lo, hi) => pure (lo, (-1 : Int), Builtin.Slice.slicePlaces lo hi (-1))) _ _ s
  rw [adjust_rev n]
  show wpAny _ _ (pure ((n : Int) - 1, (-1 : Int), Builtin.Slice.slicePlaces ((n : Int) - 1) (-1) (-1))) _ _ s
  rw [places_rev]
  exact wpAny_pure h
theorem fm_congr {α β : Type} {f g : α → Option β} : ∀ {l : List α}, (∀ x ∈ l, f x = g x) → l.filterMap f = l.filterMap g
  | [], _ => rfl
  | x :: l, h => by rw [List.filterMap_cons, List.filterMap_cons, h x List.mem_cons_self, fm_congr fun y hy => h y (List.mem_cons_of_mem _ hy)]
theorem pick_rev (xs : Array Value) : ((List.range xs.size).filterMap fun (m : Nat) => xs[(((xs.size : Int) - 1) + (m : Int) * (-1)).toNat]?).toArray = xs.toList.reverse.toArray := by
  have e : ∀ m ∈ List.range xs.size, xs[(((xs.size : Int) - 1) + (m : Int) * (-1)).toNat]? = xs[xs.size - 1 - m]? := by
    intro m hm
    have := List.mem_range.mp hm
    have z : (((xs.size : Int) - 1) + (m : Int) * (-1)).toNat = xs.size - 1 - m := by omega
    rw [z]
  rw [fm_congr e]
  have := PySem.W.krv_range xs.size
  have h2 : ((List.range xs.size).filterMap fun m => xs[xs.size - 1 - m]?) = ((List.range xs.size).map fun k => xs.size - 1 - k).filterMap (xs[·]?) := by rw [List.filterMap_map]; rfl
  rw [h2, this, List.filterMap_reverse, PySem.W.krv_all]
theorem getItem_tuple_rev {t sl : Addr} {items : Array Value} {vl vu vs : Value} {Q : Value → Shared → Prop} (ht : IsTup s.heap t items) (hs : s.heap.IsSliceOf sl vl vu vs) (pl : IsPart vl none) (pu : IsPart vu none) (ps : IsPart vs (some (-1)))
    (h : Q (.ref s.heap.objs.size) { s with heap := s.heap.push { cls := .type "tuple", data := .seq items.toList.reverse.toArray } })
    (hsz : items.size ≤ sizeLine) : wpAny (model prog w) A (getItem (.ref t) (.ref sl)) Q E s := by
  have htake : sizeOk (.seq items.toList.reverse.toArray) := by
    show items.toList.reverse.toArray.size ≤ sizeLine
    rw [List.size_toArray, List.length_reverse, Array.length_toList]
    exact hsz
  obtain ⟨os, hos, hcs, hds⟩ := id hs
  have hTs : s.TypeIs (.ref sl) "slice" := ⟨os, hos, hcs⟩
  unfold getItem
  try with_reducible refine wpAny_holding ?_
  first | refine wpAny_bind (wpAny_pure ?_) | skip
  refine wpAny_bind (wpAny_sequenceKey ht.typeIs (by decide) ?_)
  refine wpAny_bind (wpAny_callSpecial?_slot (name := Str.ofString "__getitem__") ht.typeIs PyProof.Rows.slot_tuple_getitem
    (wpAny_call_entry PyProof.Rows.slot_tuple_getitem ht.typeIs entry_tuple_getitem ?_ (args_tuple_getitem _ _)))
  show wpAny _ _ (Builtin.Tuple.tupleItemsOf (.ref t) >>= _) _ _ s
  refine wpAny_bind (tupleItemsOf_ ht ?_)
  refine wpAny_bind (wpAny_typeOf hTs ?_)
  rw [if_pos (by decide)]
  refine wpAny_bind (sliceApplied_rev hs pl pu ps ?_)
  have hno : ¬ ((((items.size : Int) - 1) == 0 && (-1 : Int) == 1 && items.size == items.size) = true) := by
    rw [show ((-1 : Int) == 1) = false from rfl, Bool.and_false, Bool.false_and]; exact Bool.false_ne_true
  show wpAny _ _ (if (((items.size : Int) - 1) == 0 && (-1 : Int) == 1 && items.size == items.size) = true then _ else _) _ _ s
  rw [if_neg hno, pick_rev]
  first
    | exact wpAny_bind (m := Builtin.Tuple.tupleExact _) (wpAny_newObj_type (wpAny_pure ⟨_, rfl, wpAny_pure h⟩) htake)
    | exact wpAny_bind (m := Builtin.Tuple.tupleExact _) (wpAny_newObj_type (wpAny_bind (wpAny_pure (wpAny_pure ⟨_, rfl, wpAny_pure h⟩))) htake)
    | exact wpAny_bind (wpAny_bind (m := Builtin.Tuple.tupleExact _) (wpAny_newObj_type (wpAny_pure (wpAny_pure ⟨_, rfl, wpAny_pure h⟩)) htake))
    | exact wpAny_bind (wpAny_bind (m := Builtin.Tuple.tupleExact _) (wpAny_newObj_type (wpAny_pure ⟨_, rfl, wpAny_pure h⟩) htake))
end
section
variable {X : Cx}
def tRevM (K : PySem.W.Frag) (te : TE) : TE := fun σ H Q => te σ H fun x H1 => ∃ a xs, x = .ref a ∧ ((SqL K H1 a xs ∧ ∀ p, H1 p = none → Q (.ref p) (upd H1 p (.lst xs.reverse))) ∨ (SqT K H1 a xs ∧ ∀ p, H1 p = none → Q (.ref p) (upd H1 p (.tup xs.reverse))))
theorem pe_revM {e : Expr} {te : TE} {k : Nat} {p1 p2 p3 pos : Pos} (he : PE X e te) : PE X (.Subscript e (.Slice none none (some (.UnaryOp .USub (.Constant (.int 1) k p1) p2)) p3) pos) (tRevM X.K te) := by
  refine ⟨fun pins s σ H Q I h => ?_⟩
  refine Subscript_ (thn (he.run pins s σ H _ I h) fun v s1 ⟨x, H1, I1, r1, q1⟩ => ?_)
  obtain ⟨a, xs, ex, q1⟩ := q1
  subst ex
  cases r1
  have hst : PO X (some (.UnaryOp .USub (.Constant (.int 1) k p1) p2)) (tPart (tUn (rU fun i => .int (-i)) (tC (.int 1)))) := po_some (pe_un un_neg pe_int)
  refine wpAny_Slice (thn (po_none.run pins s1 σ H1 (fun o H2 => o = none ∧ H2 = H1) I1 ⟨rfl, rfl⟩) fun vl s2 ⟨l, H2, I2, pl, el, e2⟩ => ?_)
  subst el e2
  refine thn (po_none.run pins s2 σ H2 (fun o H3 => o = none ∧ H3 = H2) I2 ⟨rfl, rfl⟩) fun vu s3 ⟨u, H3, I3, pu, eu, e3⟩ => ?_
  subst eu e3
  refine thn (hst.run pins s3 σ H3 (fun o H4 => o = some (-1) ∧ H4 = H3) I3 ⟨1, rfl, -1, rfl, rfl, rfl⟩) fun vs s4 ⟨o, H4, I4, ps, eo, e4⟩ => ?_
  subst eo e4
  have I5 : Inv X pins σ H4 { s4 with heap := s4.heap.push { cls := .type "slice", data := .fields #[vl, vu, vs] } } := I4.kept (t' := s4.toks) fun b ob q => Heap.get?_push_of_some _ q
  show wpAny (model X.prog X.w) X.A (subscriptTail e (.Slice none none (some (.UnaryOp .USub (.Constant (.int 1) k p1) p2)) p3) (.ref a) (.ref s4.heap.objs.size)) (EP X pins σ Q) X.xe { s4 with heap := s4.heap.push { cls := .type "slice", data := .fields #[vl, vu, vs] } }
  rcases q1 with ⟨hx, q⟩ | ⟨hx, q⟩
  · obtain ⟨its, r, ht, hz⟩ := I5.list hx
    have hlen := r.length
    refine tail_any (ops := [.ref a, .ref s4.heap.objs.size]) ht.isList.typeIs (PySem.slot_list_getitem.lookup) ?_ (by with_unfolding_all rfl)
    refine wpAny_getItem_list_slice ht.isList (Heap.IsSliceOf.new _ vl vu vs) pl pu ps (by decide) ?_ (by rw [List.size_toArray]; omega)
    rw [PySem.W.krv_pick]
    refine ⟨.ref _, _, I5.laid (t' := s4.toks) (o := .lst xs.reverse) (fun b ob q => Heap.get?_push_of_some _ q) (Nat.le_refl _) ?_, rfl, q _ (I5.hok.fresh (Nat.le_refl _))⟩
    exact ⟨by rw [List.length_reverse]; exact hz, _, 0, r.reverse, Heap.get?_push_size _ rfl⟩
  · obtain ⟨its, r, ht, hz⟩ := I5.tuple hx
    have hlen : its.toArray.size = xs.length := by rw [List.size_toArray]; exact r.length.symm
    refine tail_any (ops := [.ref a, .ref s4.heap.objs.size]) ht.typeIs (PyProof.Rows.slot_tuple_getitem.lookup) ?_ (by with_unfolding_all rfl)
    refine getItem_tuple_rev ht (Heap.IsSliceOf.new _ vl vu vs) pl pu ps ?_ (by rw [hlen]; exact hz)
    refine ⟨.ref _, _, I5.laid (t' := s4.toks) (o := .tup xs.reverse) (fun b ob q => Heap.get?_push_of_some _ q) (Nat.le_refl _) ?_, rfl, q _ (I5.hok.fresh (Nat.le_refl _))⟩
    exact ⟨by rw [List.length_reverse]; exact hz, _, r.reverse, IsTup.new _ _⟩
end
end Mi
/-! MiZip: zip of two lists, the pair stored under a name. -/
namespace Mi
open PySem PySem.Spec PyProof.Rows L2
section
variable {prog : Program} {w : World} {A : Around} {E : Value → Shared → Prop} {s : Shared}
end
end Mi
/-! MiEnT: enumerate(tuple). -/
namespace Mi
open PySem PySem.Spec PyProof.Rows L2
set_option maxHeartbeats 1000000 in
theorem enum_newT {v : Value} {o : Obj} {H : Heap → Prop} (B : Begins v o H) :
    Meets (Builtin.«enumerate.__new__» ⟨[.type "enumerate", v], []⟩) (fun _ R s => H s.heap ∧
      R (.ok (.ret (.ref (s.heap.push o).objs.size))) { s with heap := (s.heap.push o).push { cls := .type "enumerate", data := .fields #[.none, .bool false, .ref s.heap.objs.size, rawInt 0, .none, .none] } }) :=
  .of_wp fun prog w A R s h => by
    obtain ⟨hp, g, d, tk, os⟩ := s
    obtain ⟨h1, h⟩ := h
    have hsub := sub_enumerate
    have it1 : ∀ {A' : Around} {E : Value → Shared → Prop} {Q : Value → Shared → Prop}, Q (.ref hp.objs.size) ⟨hp.push o, g, d, tk, os⟩ → wpAny (model prog w) A' (pyIter v) Q E ⟨hp, g, d, tk, os⟩ := fun q => B.iter prog w _ _ ⟨hp, g, d, tk, os⟩ _ h1 q
    wp_walk using it1
    refine wpAny_stack_any fun st => wpAny_pure ?_
    split
    · rename_i c _ _ _ _ _
      cases (c == Value.type "enumerate")
      · wp_walk using it1
        exact ⟨_, rfl, h⟩
      · wp_walk using it1
        exact ⟨_, rfl, h⟩
    · wp_walk using it1
      exact ⟨_, rfl, h⟩
section
variable {prog : Program} {w : World} {A : Around} {E : Value → Shared → Prop} {s : Shared}
theorem call_enumT {v : Value} {o : Obj} {H : Heap → Prop} {Q : Value → Shared → Prop} (B : Begins v o H) (h1 : H s.heap)
    (k : ∀ h1, IsEnum h1 (s.heap.objs.size + 1) s.heap.objs.size 0 .none → h1.get? s.heap.objs.size = some o → (∀ b u, s.heap.get? b = some u → h1.get? b = some u) → Q (.ref (s.heap.objs.size + 1)) { s with heap := h1 }) :
    wpAny (model prog w) A (call (.type "enumerate") [v]) Q E s := by
  refine callType_new F.called_enumerate (by decide) (F.typeCall_enumerate_1 _) (F.newCall_enumerate_1 _) (fun obj => F.args_object_init_2 obj _) F.entry_enumerate_new (enum_newT B) ⟨h1, ?_⟩
  have sz : (s.heap.push o).objs.size = s.heap.objs.size + 1 := Heap.size_push ..
  show _ ∧ _
  rw [sz]
  have en : IsEnum ((s.heap.push o).push { cls := .type "enumerate", data := .fields #[.none, .bool false, .ref s.heap.objs.size, rawInt 0, .none, .none] }) (s.heap.objs.size + 1) s.heap.objs.size 0 .none := by
    have := Heap.get?_push_size (s.heap.push o) (o := { cls := .type "enumerate", data := .fields #[.none, .bool false, .ref s.heap.objs.size, rawInt 0, .none, .none] }) rfl
    rw [sz] at this
    exact this
  exact ⟨⟨_, en, rfl⟩, k _ en (Heap.get?_push_of_some _ (Heap.get?_push_size _ B.free)) fun b u x => Heap.get?_push_of_some _ (Heap.get?_push_of_some _ x)⟩
end
/-- the tuple at a, each item in a new pair -/
def IteT (K : PySem.W.Frag) (a : Addr) : It :=
  ⟨fun i H => ∃ (xs : List V) (x : V), SqT K H a xs ∧ xs[i]? = some x, fun i H v H1 => ∃ T x, v = .ref T ∧ H T = none ∧ H1 = upd H T (.tup [.int (i : Nat), x]) ∧ ∀ xs, SqT K H a xs → xs[i]? = some x, fun i H => ∃ xs : List V, SqT K H a xs ∧ xs.length ≤ i⟩
theorem turn_enumT {P : Program} {w : World} {K : PySem.W.Frag} {elts : List Expr} {kk : Nat} {tpos : Pos} (a e it : Addr) :
    Turn P w K (.Tuple elts kk tpos) (IteT K a) [e, it] e (fun i h => (∃ old, IsEnum h e it ((i : Nat) : Int) old) ∧ h.IsTupleIter it a i ∧ e ≠ it) where
  mem := by simp
  obj := fun i h st b hb => by
    obtain ⟨⟨old, he⟩, ⟨o, ho, hc, hd⟩, _⟩ := st
    have q : b = e ∨ b = it := by simpa using hb
    rcases q with z | z
    · rw [z]; exact ⟨_, he, fun v q => nomatch q⟩
    · rw [z]; exact ⟨o, ho, fun v q => by rw [hd] at q; cases q⟩
  keep := fun i h h' st k => let ⟨⟨old, he⟩, hi, hne⟩ := st; ⟨⟨old, k e (by simp) _ he⟩, hi.at fun o q => k it (by simp) o q, hne⟩
  item := by
    intro X hP hw hK hc i pins s σ H E I hf st hg
    subst hP hw hK
    obtain ⟨⟨old, he⟩, hit, hne⟩ := st
    obtain ⟨xs, x, hq, hx⟩ := hg
    obtain ⟨its, rv, p, hz⟩ := I.tuple hq
    obtain ⟨u, hu, ru⟩ := rv.get hx
    have ht : s.heap.IsTuple a its.toArray := p
    have hel : e < s.heap.objs.size := Heap.lt_size he
    have hil : it < s.heap.objs.size := by obtain ⟨_, q, _⟩ := hit; exact Heap.lt_size q
    obtain ⟨ot, hot, hct, _⟩ := id ht
    have ae : a ≠ e := fun z => by
      rw [z] at hot
      rw [he] at hot
      cases hot
      simp at hct
    have ai : a ≠ it := fun z => by
      obtain ⟨oi, hoi, hci, _⟩ := hit
      rw [z, hoi] at hot
      cases hot
      rw [hci] at hct
      simp at hct
    have hlt : i < its.toArray.size := by
      have := (List.getElem?_eq_some_iff.mp hu).1
      simpa using this
    have D := Draws.tuple (prog := X.prog) (w := X.w) (A := X.A.in1) (I.ok.hd hc) it a ai its.toArray
    refine wpAny_pyNext_enum_itemD D he ⟨hit, ht⟩ hlt hne (by simp [hne, Ne.symm ae]) fun y h1 tk hy ho hst hT _ hk => ?_
    have ey : y = u := by
      have : its.toArray[i]? = some u := by simpa using hu
      rw [this] at hy; exact (Option.some.inj hy).symm
    subst ey
    refine ⟨_, rfl, wpAny_letOwnedTupleGo_enum (s := { s with heap := h1, toks := tk + 1 }) ho fun h2 he2 sb => ?_⟩
    have hT2 : h2.get? s.heap.objs.size = some { cls := .type "tuple", data := .seq #[.int i tk, y] } := (sb.2 _ (Nat.ne_of_gt hel)).trans hT
    have new : ObjOk X.prog X.w (upd H s.heap.objs.size (.tup [.int (i : Nat), x])) h2 s.heap.objs.size (.tup [.int (i : Nat), x]) :=
      ⟨by show 2 ≤ sizeLine; decide, [.int i tk, y], .cons ⟨_, rfl⟩ (.cons ru .nil), ⟨_, hT2, rfl, _, rfl⟩⟩
    have I1 : Inv X pins σ (upd H s.heap.objs.size (.tup [.int (i : Nat), x])) { s with heap := h2, toks := tk + 1 } :=
      I.turnedNew (ch := [e, it]) (fun b ob hb q => (sb.2 b (fun z => hb (by simp [z]))).trans (hk b ob (fun z => hb (by simp [z])) (fun z => hb (by simp [z])) q)) hf (Nat.le_refl _) new
    refine ⟨.ref s.heap.objs.size, _, I1, rfl, ⟨_, x, rfl, I.hok.fresh (Nat.le_refl _), rfl, fun ys hy => by rw [I.tuple_inj hy hq]; exact hx⟩, ⟨⟨y, ?_⟩, hst.1.at fun o q => (sb.2 it (Ne.symm hne)).trans q, hne⟩, fun b hb => ?_⟩
    · have e1 : ((i + 1 : Nat) : Int) = (i : Int) + 1 := by omega
      rw [e1]; exact he2
    · have lb : b < s.heap.objs.size := by
        have q : b = e ∨ b = it := by simpa using hb
        rcases q with z | z
        · rw [z]; exact hel
        · rw [z]; exact hil
      rw [upd_ne (Nat.ne_of_lt lb)]
      exact (hf b hb).1
  done := by
    intro X hP hw hK hc i pins s σ H E I hf st hg
    subst hP hw hK
    obtain ⟨⟨old, he⟩, hit, hne⟩ := st
    obtain ⟨xs, hq, hx⟩ := hg
    obtain ⟨its, rv, p, hz⟩ := I.tuple hq
    have ht : s.heap.IsTuple a its.toArray := p
    obtain ⟨f0, f1, f2, f3, f4, f5⟩ := hf it (by simp)
    have hl := rv.length
    have hT : s.TypeIs (.ref e) "enumerate" := ⟨_, he, rfl⟩
    unfold pyNext
    refine wpAny_bind (wpAny_attempt (wpAny_callSpecial?_slot (name := Str.ofString "__next__") hT F.slot_enumerate_next
      (wpAny_call_entry F.slot_enumerate_next hT F.entry_enumerate_next ?_ (F.args_enumerate_next_1 _))))
    show wpAny _ _ (field (.ref e) 2 >>= _) _ _ _
    refine wpAny_bind (wpAny_field he rfl (x := .ref it) rfl ?_)
    refine wpAny_bind (wpAny_nextOf_tuple_end (I.ok.hd hc) hit ht (by simp; omega) fun h1 x he1 hx1 => ?_)
    obtain ⟨o, ho, hcl⟩ := hx1
    refine wpAny_bind (wpAny_isInstance (T := "StopIteration") (b := true) ⟨o, ho, hcl⟩ isSubtype_stop ?_)
    exact wpAny_pure ⟨rfl, I.turned (t' := s.toks) (fun b o hb q => he1 b o hb q) f0 f1 f3 f4 f5⟩
  self := fun A i s Q E st h => let ⟨⟨_, he⟩, _⟩ := st; wpAny_pyIter_enum he h
def iEnum2 (K : PySem.W.Frag) (ta : TA) : TI := fun σ H R => ta σ H fun vs H1 => (∃ a xs, vs = [.ref a] ∧ SqL K H1 a xs ∧ R (Ite K a) H1) ∨ ∃ a xs, vs = [.ref a] ∧ SqT K H1 a xs ∧ R (IteT K a) H1
theorem pi_enum2 {X : Cx} {e : Expr} {ta : TA} {p pos tpos : Pos} {elts : List Expr} {kk : Nat} (hg : Gl X "enumerate") (hm : X.mg "enumerate" = none) (ha : PA X [e] ta) (hs : starEach [e] X.env = [(false, eval e X.env)] := by rfl) :
    PI X (.Tuple elts kk tpos) (.Call (.Name "enumerate" p) [e] [] pos) (iEnum2 X.K ta) := by
  refine ⟨fun pins s σ H R I h => ?_⟩
  refine Call_ (ld_blt I hg hm boot_enumerate (PyProof.Rows.callWith_type1 (thn (ha.run pos pins s σ H _ I h) fun us s1 ⟨vs, H1, I1, r1, q1⟩ => ?_) hs rfl))
  have fresh : ∀ b ∈ [s1.heap.objs.size + 1, s1.heap.objs.size], s1.heap.objs.size ≤ b := fun b hb => by
    have q : b = s1.heap.objs.size + 1 ∨ b = s1.heap.objs.size := by simpa using hb
    omega
  rcases q1 with ⟨a, xs, ex, hq, q⟩ | ⟨a, xs, ex, hq, q⟩
  · subst ex
    cases r1 with
    | cons r rr =>
      cases rr
      cases r
      obtain ⟨its, rv, pl, hz⟩ := I1.list hq
      refine call_enumerate_list pl.isList fun h1 he hit _ hk => wpAny_pyIter_enum he ?_
      have I2 : Inv X pins σ H1 { s1 with heap := h1 } := I1.kept (t' := s1.toks) hk
      exact ⟨s1.heap.objs.size + 1, [s1.heap.objs.size + 1, s1.heap.objs.size], _, _, H1, rfl, I2, turn_enum a (s1.heap.objs.size + 1) s1.heap.objs.size, ⟨⟨.none, he⟩, hit, Nat.succ_ne_self _⟩, fun b hb => I1.fpOk (fresh b hb) (I1.hok.fresh (fresh b hb)), q⟩
  · subst ex
    cases r1 with
    | cons r rr =>
      cases rr
      cases r
      obtain ⟨its, rv, pl, hz⟩ := I1.tuple hq
      refine call_enumT (begins_tuple a its.toArray) pl fun h1 he hit hk => wpAny_pyIter_enum he ?_
      have I2 : Inv X pins σ H1 { s1 with heap := h1 } := I1.kept (t' := s1.toks) hk
      exact ⟨s1.heap.objs.size + 1, [s1.heap.objs.size + 1, s1.heap.objs.size], _, _, H1, rfl, I2, turn_enumT a (s1.heap.objs.size + 1) s1.heap.objs.size, ⟨⟨.none, he⟩, ⟨_, hit, rfl, rfl⟩, Nat.succ_ne_self _⟩, fun b hb => I1.fpOk (fresh b hb) (I1.hok.fresh (fresh b hb)), q⟩
end Mi
/-! Mi5: places, slices, dicts, methods, what is walked, comprehensions. -/
namespace Mi
open PySem PySem.Spec PyProof.Rows L2
variable [Tb]

section
variable {X : Cx} {EW : EWish} {C : Calls'} {G : Str → Option D}
/-! ### places -/
theorem atI_rel {c : Cfg} {l : List D} {vs : List V} {i : Int} {d : D} (h : RelDs X.K c l vs) (e : atI l i = some d) : ∃ v, atI vs i = some v ∧ RelD X.K c d v := by
  unfold atI at e ⊢
  obtain ⟨j, e1, e2⟩ := Option.bind_eq_some_iff.mp e
  obtain ⟨v, e3, e4⟩ := RelDs.get h e2
  exact ⟨v, by rw [← RelDs.length h, e1]; exact e3, e4⟩
theorem prim_ix (c : Cfg) (h : Hh) (x y : R) (u v : V) (Q : VK) (wf : WF X.K c h) (r1 : RelR X.K c x u) (r2 : RelR X.K c y v) (p : PostE X.K EW c Q (Res.of h ((ixF h x y).map .dat))) : rIx X.K u v c.H Q := by
  cases e : ixF h x y with
  | none => rw [e] at p; exact False.elim p
  | some d =>
    rw [e] at p
    unfold ixF at e
    split at e
    · rename_i z i
      split at e
      · rename_i hz
        cases q : atI z.cps.toList i with
        | none => rw [q] at e; cases e
        | some n =>
          rw [q] at e; cases e
          exact .inr (.inr ⟨z, i, n, r1, r2, hz, q, PostE.here wf p relStr⟩)
      · cases e
    · rename_i i _
      obtain ⟨l, e1, e2⟩ := Option.bind_eq_some_iff.mp e
      obtain ⟨a, vs, rfl, g1, g2⟩ := sv_rel wf r1 e1
      obtain ⟨w, g3, g4⟩ := atI_rel g2 e2
      rcases g1 with g1 | g1
      · exact .inl ⟨a, vs, i, w, rfl, r2, g1, g3, PostE.here wf p g4⟩
      · exact .inr (.inl ⟨a, vs, i, w, rfl, r2, g1, g3, PostE.here wf p g4⟩)
    · cases e
theorem sim_ix {a b : Expr} {ma mb : E} {pos : Pos} (ha : PE X a (tE X.K EW C G ma)) (hb : PE X b (tE X.K EW C G mb)) (hs : PlainIx b := by exact fun _ _ => rfl) : PE X (.Subscript a b pos) (tE X.K EW C G (.ix ma mb)) :=
  (pe_ix ix_seq ha hb hs).imp (two_red (f := fun h x y => (ixF h x y).map .dat) (fun _ _ => by conv => lhs; unfold evalE) prim_ix)
/-! ### slices -/
theorem part_no : PO X none (tO X.K EW C G .no) := PO.imp po_none fun σ H Q w => by
  obtain ⟨He, c, h, env, rfl, wf, re, p⟩ := w
  unfold evalO at p
  exact p c none (Le.refl c) wf rfl
theorem part_some {e : Expr} {m : E} (he : PE X e (tE X.K EW C G m)) : PO X (some e) (tO X.K EW C G (.part m)) := PO.imp (po_some he) fun σ H Q w => by
  obtain ⟨He, c, h, env, rfl, wf, re, p⟩ := w
  unfold evalO at p
  refine ⟨He, c, h, env, rfl, wf, re, p.bind fun x h1 c1 u le1 wf1 r1 p1 => ?_⟩
  split at p1
  · rename_i i
    exact ⟨i, r1.1, p1 c1 (some i) le1 wf1 rfl⟩
  · exact False.elim p1
def rSlM (K : PySem.W.Frag) : V → Option Int → Option Int → Hp → VK → Prop := fun x lo hi H Q => rSlS x lo hi H Q ∨ (rSlA K x lo hi H Q ∨ rSlL K x lo hi H Q)
theorem sl_M : SlR X (rSlM X.K) := SlR.or sl_str (SlR.or sl_tupA sl_list)
theorem cut_rel {c : Cfg} {l : List D} {vs : List V} (h : RelDs X.K c l vs) (lo hi : Option Int) : RelDs X.K c (cutD l lo hi) (cutV vs lo hi) := by
  unfold cutD cutV
  rw [RelDs.length h]
  exact RelDs.take _ (RelDs.drop _ h)
theorem cut_whole {l : List D} {lo hi : Option Int} (h : HT.sIx l.length 0 lo = 0 ∧ HT.sIx l.length l.length hi = l.length) : cutD l lo hi = l := by
  unfold cutD
  rw [h.1, h.2, List.drop_zero, Nat.sub_zero, List.take_length]
theorem prim_sl (c : Cfg) (h : Hh) (x : R) (u : V) (lo hi : Option Int) (Q : VK) (wf : WF X.K c h) (r1 : RelR X.K c x u) (p : PostE X.K EW c Q (Res.of h (slF h lo hi x))) : rSlM X.K u lo hi c.H Q := by
  unfold slF at p
  split at p
  · rename_i z
    split at p
    · rename_i hz
      exact .inl ⟨z, r1, hz, PostE.here wf p relStr⟩
    · exact False.elim p
  · rename_i l
    have q : RelD X.K c (.tup l) u := r1
    unfold RelD at q
    obtain ⟨a, vs, rfl, g1, g2⟩ := q
    have el := RelDs.length g2
    refine .inr (.inl ⟨a, vs, rfl, g1, fun hw => ?_, fun _ b hb => PostE.newT wf hb (cut_rel g2 lo hi) p⟩)
    rw [← el] at hw
    have p' : PostE X.K EW c Q (.ok (.dat (.tup l)) h) := by
      have p2 : PostE X.K EW c Q (.ok (.dat (.tup (cutD l lo hi))) h) := p
      rw [cut_whole hw] at p2; exact p2
    exact PostE.here wf p' r1
  · cases e : lv h x with
    | none => rw [e] at p; exact False.elim p
    | some l =>
      rw [e] at p
      obtain ⟨a, vs, rfl, g1, g2⟩ := lv_rel wf r1 e
      exact .inr (.inr ⟨a, vs, rfl, .inl (.inl g1), fun b hb => PostE.newL wf hb (cut_rel g2 lo hi) p⟩)
theorem sim_sl {a : Expr} {lo hi : Option Expr} {ma : E} {ml mh : Oe} {p2 pos : Pos} (ha : PE X a (tE X.K EW C G ma)) (hl : PO X lo (tO X.K EW C G ml)) (hh : PO X hi (tO X.K EW C G mh)) :
    PE X (.Subscript a (.Slice lo hi none p2) pos) (tE X.K EW C G (.sl ma ml mh)) := (pe_slice sl_M ha hl hh).imp fun σ H Q w => by
  obtain ⟨He, c, h, env, rfl, wf, re, p⟩ := w
  unfold evalE at p
  refine ⟨He, c, h, env, rfl, wf, re, p.bind fun x h1 c1 u le1 wf1 r1 p1 => ?_⟩
  replace p1 := PostE.lift le1 p1
  refine ⟨He, c1, h1, env, rfl, wf1, re.mono le1, Post.bind (Rl1 := RO) p1 fun i h2 c2 i' le2 wf2 r2 p2 => ?_⟩
  replace p2 := PostE.lift le2 p2
  obtain rfl : i = i' := r2
  refine ⟨He, c2, h2, env, rfl, wf2, (re.mono le1).mono le2, Post.bind (Rl1 := RO) p2 fun j h3 c3 j' le3 wf3 r3 p3 => ?_⟩
  obtain rfl : j = j' := r3
  exact prim_sl c3 h3 x u i j Q wf3 (RelR.mono le3 (RelR.mono le2 r1.1)) (PostE.lift le3 p3)
/-! ### x[::-1] -/
theorem rels_rev {c : Cfg} : ∀ {l : List D} {vs : List V}, RelDs X.K c l vs → RelDs X.K c l.reverse vs.reverse := by
  intro l vs h
  have key : ∀ (l : List D) (vs : List V) (l2 : List D) (vs2 : List V), RelDs X.K c l vs → RelDs X.K c l2 vs2 → RelDs X.K c (l.reverse ++ l2) (vs.reverse ++ vs2) := by
    intro l
    induction l with
    | nil => intro vs l2 vs2 h h2; unfold RelDs at h; subst h; simpa using h2
    | cons x l ih =>
      intro vs l2 vs2 h h2
      unfold RelDs at h
      obtain ⟨u, us, rfl, h3, h4⟩ := h
      have := ih us (x :: l2) (u :: vs2) h4 (by unfold RelDs; exact ⟨u, vs2, rfl, h3, h2⟩)
      simpa using this
  have := key l vs [] [] h (by unfold RelDs; rfl)
  simpa using this
theorem sim_rev {a : Expr} {ma : E} {k : Nat} {p1 p2 p3 pos : Pos} (ha : PE X a (tE X.K EW C G ma)) : PE X (.Subscript a (.Slice none none (some (.UnaryOp .USub (.Constant (.int 1) k p1) p2)) p3) pos) (tE X.K EW C G (.rev ma)) := (pe_revM ha).imp fun σ H Q w => by
  obtain ⟨He, c, h, env, rfl, wf, re, p⟩ := w
  unfold evalE at p
  refine ⟨He, c, h, env, rfl, wf, re, p.bind fun x h1 c1 u le1 wf1 r1 p1 => ?_⟩
  replace p1 := PostE.lift le1 p1
  unfold revF at p1
  split at p1
  · rename_i l
    have q : RelD X.K c1 (.tup l) u := r1.1
    unfold RelD at q
    obtain ⟨b, vs, rfl, g1, g2⟩ := q
    exact ⟨b, vs, rfl, .inr ⟨g1, fun d hd => PostE.newT wf1 hd (rels_rev g2) p1⟩⟩
  · cases e : lv h1 x with
    | none => rw [e] at p1; exact False.elim p1
    | some l =>
      rw [e] at p1
      obtain ⟨b, vs, rfl, g1, g2⟩ := lv_rel wf1 r1.1 e
      exact ⟨b, vs, rfl, .inl ⟨.inl (.inl g1), fun d hd => PostE.newL wf1 hd (rels_rev g2) p1⟩⟩
/-! ### dicts -/
theorem kv_keys {c : Cfg} {k : Key} : ∀ {l : List (Key × D)} {vs : List (Key × V)}, RelKv X.K c l vs → (l.any fun kv => decide (kv.1 = k)) = (vs.any fun kv => decide (kv.1 = k))
  | [], vs, h => by unfold RelKv at h; subst h; rfl
  | (j, d) :: l, vs, h => by
    unfold RelKv at h
    obtain ⟨v, r, rfl, h1, h2⟩ := h
    simp only [List.any_cons, kv_keys h2]
theorem kv_look {c : Cfg} {k : Key} : ∀ {l : List (Key × D)} {vs : List (Key × V)} {d : D}, RelKv X.K c l vs → dLook l k = some d → ∃ v, valV vs k = some v ∧ RelD X.K c d v
  | [], vs, d, h, e => by simp [dLook] at e
  | (j, d') :: l, vs, d, h, e => by
    unfold RelKv at h
    obtain ⟨v, r, rfl, h1, h2⟩ := h
    by_cases hj : j = k
    · have e' : some d' = some d := by rw [← e]; simp [dLook, List.find?_cons, hj]
      cases e'
      exact ⟨v, valV_pos (p := (j, v)) hj, h1⟩
    · have e' : dLook l k = some d := by rw [← e]; simp [dLook, List.find?_cons, hj]
      obtain ⟨w, g1, g2⟩ := kv_look h2 e'
      exact ⟨w, by rw [valV_neg (p := (j, v)) hj]; exact g1, g2⟩
theorem kv_map {c : Cfg} {k : Key} {d : D} {v : V} (hd : RelD X.K c d v) : ∀ {l : List (Key × D)} {vs : List (Key × V)}, RelKv X.K c l vs → RelKv X.K c (l.map fun kv => if kv.1 = k then (kv.1, d) else kv) (vs.map fun kv => if kv.1 = k then (kv.1, v) else kv)
  | [], vs, h => by unfold RelKv at h; subst h; simp [RelKv]
  | (j, d') :: l, vs, h => by
    unfold RelKv at h
    obtain ⟨u, r, rfl, h1, h2⟩ := h
    rw [List.map_cons, List.map_cons]
    by_cases hj : j = k
    · simp only [hj, if_true]
      unfold RelKv
      exact ⟨v, _, rfl, hd, kv_map hd h2⟩
    · simp only [hj, if_false]
      unfold RelKv
      exact ⟨u, _, rfl, h1, kv_map hd h2⟩
theorem kv_snoc {c : Cfg} {k : Key} {d : D} {v : V} (hd : RelD X.K c d v) : ∀ {l : List (Key × D)} {vs : List (Key × V)}, RelKv X.K c l vs → RelKv X.K c (l ++ [(k, d)]) (vs ++ [(k, v)])
  | [], vs, h => by
    unfold RelKv at h; subst h
    show RelKv X.K c [(k, d)] [(k, v)]
    unfold RelKv
    exact ⟨v, [], rfl, hd, by unfold RelKv; rfl⟩
  | (j, d') :: l, vs, h => by
    unfold RelKv at h
    obtain ⟨u, r, rfl, h1, h2⟩ := h
    show RelKv X.K c ((j, d') :: (l ++ [(k, d)])) ((j, u) :: (r ++ [(k, v)]))
    unfold RelKv
    exact ⟨u, _, rfl, h1, kv_snoc hd h2⟩
theorem kv_put {c : Cfg} {k : Key} {d : D} {v : V} {l : List (Key × D)} {vs : List (Key × V)} (h : RelKv X.K c l vs) (hd : RelD X.K c d v) : RelKv X.K c (dPut l k d) (putK vs k v) := by
  unfold dPut putK
  rw [kv_keys h]
  split
  · exact kv_map hd h
  · exact kv_snoc hd h
theorem kv_length {c : Cfg} : ∀ {l : List (Key × D)} {vs : List (Key × V)}, RelKv X.K c l vs → l.length = vs.length
  | [], vs, h => by unfold RelKv at h; subst h; rfl
  | (j, d) :: l, vs, h => by
    unfold RelKv at h
    obtain ⟨v, r, rfl, h1, h2⟩ := h
    simp [kv_length h2]
theorem kv_zip {c : Cfg} : ∀ {ks : List Key} {ds : List D} {vs : List V}, RelDs X.K c ds vs → RelKv X.K c (ks.zip ds) (ks.zip vs)
  | [], ds, vs, h => by simp [RelKv]
  | k :: ks, [], vs, h => by unfold RelDs at h; subst h; simp [RelKv]
  | k :: ks, d :: ds, vs, h => by
    unfold RelDs at h
    obtain ⟨v, r, rfl, h1, h2⟩ := h
    show RelKv X.K c ((k, d) :: ks.zip ds) ((k, v) :: ks.zip r)
    unfold RelKv
    exact ⟨v, _, rfl, h1, kv_zip h2⟩
theorem key_rel {c : Cfg} {d : D} {v : V} {k : Key} (h : RelD X.K c d v) (e : keyOf d = some k) : v = kV k := by
  cases d with
  | int i => unfold keyOf at e; cases e; unfold RelD at h; exact h
  | str i => unfold keyOf at e; cases e; unfold RelD at h; exact h
  | _ => unfold keyOf at e; cases e
theorem dct_rel {c : Cfg} {h : Hh} {x : R} {v : V} {l : List (Key × D)} (wf : WF X.K c h) (hr : RelR X.K c x v) (e : dctOf h x = some l) : ∃ a kvs, v = .ref a ∧ c.H a = some (.dK kvs) ∧ RelKv X.K c l kvs := by
  unfold dctOf at e
  split at e
  · rename_i n
    split at e
    · rename_i l' hl
      cases e
      have hr' : RelD X.K c (.ref n) v := hr
      unfold RelD at hr'
      obtain ⟨kvs, g1, g2⟩ := wf.obj n _ hl
      exact ⟨_, kvs, hr'.2, g1, g2⟩
    · cases e
  · cases e
theorem prim_dget (c : Cfg) (h : Hh) (x y : R) (u v : V) (Q : VK) (wf : WF X.K c h) (r1 : RelR X.K c x u) (r2 : RelR X.K c y v) (p : PostE X.K EW c Q (Res.of h ((dgetF h x y).map .dat))) : ∃ a w, u = .ref a ∧ DGet c.H a v (some w) ∧ Q w c.H := by
  cases e : dgetF h x y with
  | none => rw [e] at p; exact False.elim p
  | some d =>
    rw [e] at p
    unfold dgetF at e
    split at e
    · rename_i l k e1
      obtain ⟨j, e2, e3⟩ := Option.bind_eq_some_iff.mp e
      obtain ⟨a, kvs, rfl, g1, g2⟩ := dct_rel wf r1 e1
      obtain ⟨w, g3, g4⟩ := kv_look g2 e3
      rw [key_rel r2 e2]
      exact ⟨a, w, rfl, by rw [← g3]; exact DGet.k g1, PostE.here wf p g4⟩
    · cases e
theorem sim_dget (hu : X.A.units + 200 < cLine) {a b : Expr} {ma mb : E} {pos : Pos} (ha : PE X a (tE X.K EW C G ma)) (hb : PE X b (tE X.K EW C G mb)) (hs : NoSl b := by exact fun _ _ => rfl) : PE X (.Subscript a b pos) (tE X.K EW C G (.dget ma mb)) :=
  (pe_dget (by omega) ha hb hs).imp (two_red (r := fun u v H Q => ∃ a w, u = .ref a ∧ DGet H a v (some w) ∧ Q w H) (f := fun h x y => (dgetF h x y).map .dat) (fun _ _ => by conv => lhs; unfold evalE) prim_dget)
/-- an object that nobody else has is written -/
theorem any_sta {c : Cfg} {a : Addr} {o ho : HO} (h1 : c.H a = some o) (ht : ∀ xs, o ≠ .tup xs) (hf : ∀ ob u, o ≠ .frz ob u) (h2 : ¬ c.F a) (hx1 : ∀ φ, o ≠ .ext φ := by intro _ z; cases z) (hx2 : ∀ fs, o ≠ .xd fs := by intro _ z; cases z) : Sta c (c.put a ho) := by
  refine ⟨Nat.le_refl _, fun _ _ => rfl, fun _ h => h, fun x o' hF hx => ?_, fun x xs hx => ?_, fun x o' u hx => ?_, fun x φ hx => ?_, fun x fs hx => ?_⟩
  · show upd c.H a _ x = _
    rw [upd_ne (fun e => h2 (by rw [← e]; exact hF))]; exact hx
  · show upd c.H a _ x = _
    rw [upd_ne (fun e => by rw [e, h1] at hx; exact ht _ (Option.some.inj hx))]; exact hx
  · show upd c.H a _ x = _
    rw [upd_ne (fun e => by rw [e, h1] at hx; exact hf _ _ (Option.some.inj hx))]; exact hx
  · show upd c.H a _ x = _
    rw [upd_ne (fun e => by rw [e, h1] at hx; exact hx1 _ (Option.some.inj hx))]; exact hx
  · show upd c.H a _ x = _
    rw [upd_ne (fun e => by rw [e, h1] at hx; exact hx2 _ (Option.some.inj hx))]; exact hx
theorem any_le {c c0 : Cfg} (le : Le c0 c) {a : Addr} {o ho : HO} (h0 : c0.H a = none) (h1 : c.H a = some o) (ht : ∀ xs, o ≠ .tup xs) (hf : ∀ ob u, o ≠ .frz ob u) (h2 : ¬ c.F a) (hx1 : ∀ φ, o ≠ .ext φ := by intro _ z; cases z) (hx2 : ∀ fs, o ≠ .xd fs := by intro _ z; cases z) : Le c0 (c.put a ho) := by
  have st := any_sta (ho := ho) h1 ht hf h2 hx1 hx2
  refine ⟨le.toSta.trans st, le.newF, le.newR, fun x o' hx hr nt => ?_, fun x hx => ?_⟩
  · show upd c.H a _ x = _
    rw [upd_ne (fun e => by rw [e, h0] at hx; cases hx)]
    exact le.keep x o' hx hr nt
  · show upd c.H a _ x ≠ _
    by_cases e : x = a
    · rw [e, upd_same]; simp
    · rw [upd_ne e]; exact le.stay x hx
theorem any_wf {c : Cfg} {h : Hh} (wf : WF X.K c h) {a : Addr} {o ho : HO} (h1 : c.H a = some o) (ht : ∀ xs, o ≠ .tup xs) (hf : ∀ ob u, o ≠ .frz ob u) (h2 : ¬ c.F a) (h3 : ∀ k, k < c.n → c.r k ≠ a)
    (t1 : ∀ ps, o ≠ .tbl ps := by intro _ z; cases z) (t2 : ∀ φ, o ≠ .ext φ := by intro _ z; cases z) (t3 : ∀ fs, o ≠ .xd fs := by intro _ z; cases z) (no : ∀ ps, ho ≠ .tbl ps := by intro _ z; cases z) : WF X.K (c.put a ho) h := by
  have st := any_sta (ho := ho) h1 ht hf h2 t2 t3
  refine ⟨wf.tabs.upd (fun ps => by rw [h1]; exact fun z => t1 ps (Option.some.inj z)) (fun ps => by rw [h1]; exact fun z => t2 ps (Option.some.inj z)) no, wf.sz, fun k o' hk => ?_, wf.inj, wf.nF, fun x hx => ?_⟩
  · have hk' : k < c.n := by rw [wf.sz]; exact (List.getElem?_eq_some_iff.mp hk).1
    have e : (c.put a ho).H ((c.put a ho).r k) = c.H (c.r k) := upd_ne (h3 k hk')
    rw [e]
    exact RelO.mono st _ _ (wf.obj k o' hk)
  · obtain ⟨us, q⟩ := wf.fl x hx
    exact ⟨us, st.fls x _ hx q⟩
/-- the readings of a display's pairs -/
def trsOf (K : PySem.W.Frag) (EW : EWish) (C : Calls') (G : Str → Option D) : List Key → Es → List (TE × TE)
  | k :: ks, .cons m ms => (tC (kV k), tE K EW C G m) :: trsOf K EW C G ks ms
  | _, _ => []
theorem merge_nodup : ∀ (more kvs : List (Key × V)), ((kvs ++ more).map (·.1)).Nodup → mergeK kvs more = kvs ++ more
  | [], kvs, _ => by simp [mergeK]
  | (k, v) :: more, kvs, h => by
    have hn : valV kvs k = none := by
      have : k ∉ kvs.map (·.1) := by
        intro hk
        rw [List.map_append, List.map_cons] at h
        have := List.nodup_append.mp h
        exact this.2.2 k hk k (by simp) rfl
      unfold valV
      rw [Option.map_eq_none_iff, List.find?_eq_none]
      intro p hp
      simp only [decide_eq_true_eq]
      exact fun e => this (by rw [← e]; exact List.mem_map_of_mem hp)
    show mergeK (putK kvs k v) more = _
    rw [putK_new v hn, merge_nodup more (kvs ++ [(k, v)]) (by simpa using h)]
    simp
def pairsOf (ks : List Key) (vs : List V) : List (V × V) := (ks.zip vs).map fun kv => (kV kv.1, kv.2)
theorem pairs_red : ∀ (ks : List Key) (ms : Es), ms.len = ks.length → ∀ (Qf : List (V × V) → Hp → Prop) (He : Hp) (c : Cfg) (h : Hh) (env : Env') (σ : L2.St), WF X.K c h → RelEnv X.K He c env σ →
    Post X.K EW c (RA X.K) (fun vs H => Qf (pairsOf ks vs) H) (evalEs C G ms env h) → tPairs (trsOf X.K EW C G ks ms) σ c.H Qf
  | [], .nil, _, Qf, He, c, h, env, σ, wf, re, p => by
    unfold evalEs at p
    exact p c [] (Le.refl c) wf RelDs.nil
  | [], .cons _ _, hl, _, _, _, _, _, _, _, _, _ => by simp [Es.len] at hl
  | _ :: _, .nil, hl, _, _, _, _, _, _, _, _, _ => by simp [Es.len] at hl
  | k :: ks, .cons m ms, hl, Qf, He, c, h, env, σ, wf, re, p => by
    unfold evalEs at p
    refine ⟨He, c, h, env, rfl, wf, re, p.bind fun x h1 c1 u le1 wf1 r1 p1 => ?_⟩
    cases e : x.fz with
    | none => rw [e] at p1; exact False.elim p1
    | some d =>
      rw [e] at p1
      obtain ⟨c2, eH, le2, st2, wf2, r2⟩ := freeze_ans le1 wf1 r1 e
      have p2 := Post.lift le2 (fun _ _ _ h => h) p1
      have hl' : ms.len = ks.length := by simpa [Es.len] using hl
      have p3 : Post X.K EW c2 (RA X.K) (fun vs H => Qf ((kV k, u) :: pairsOf ks vs) H) (evalEs C G ms env h1) := Post.bind (Rl1 := RA X.K) p2 fun ds h2 c3 vs le3 wf3 r3 p3 => p3 c3 (u :: vs) le3 wf3 (RelDs.cons (RelD.mono le3.toSta _ _ r2) r3)
      rw [← eH]
      exact pairs_red ks ms hl' (fun ps H => Qf ((kV k, u) :: ps) H) He c2 h1 env σ wf2 (re.mono le2) p3
theorem zip_fst_sub : ∀ (ks : List Key) (vs : List V), ((ks.zip vs).map (·.1)).Sublist ks
  | [], _ => by simp
  | k :: ks, [] => by simp
  | k :: ks, v :: vs => by
    show (k :: (ks.zip vs).map (·.1)).Sublist (k :: ks)
    exact (zip_fst_sub ks vs).cons_cons k
theorem sim_dct {keys : List (Option Expr)} {values : List Expr} {ks : List Key} {ms : Es} {pos : Pos} (hp : PPs X pos keys values (trsOf X.K EW C G ks ms)) (hall : keys.all (·.isSome) = true := by rfl) (hl : keys.length = values.length := by rfl) (h0 : keys ≠ [] := by exact fun z => by cases z)
    (h15 : keys.length ≤ 15 := by decide) (hn : ms.len = ks.length := by rfl) : PE X (.Dict keys values pos) (tE X.K EW C G (.dct ks ms)) := (pe_disp hp hall hl h0 h15).imp fun σ H Q w => by
  obtain ⟨He, c, h, env, rfl, wf, re, p⟩ := w
  unfold evalE at p
  intro a ha
  have le0 := put_le wf ha (.dK [])
  have wf0 := put_wf wf ha (.dK [])
  refine pairs_red ks ms hn _ He (c.put a (.dK [])) h env σ wf0 (re.mono le0) (Post.bind2 (Rl1 := RA X.K) p le0 fun ds h1 c1 vs le1 wf1 r1 p1 => ?_)
  have na : ∀ k, k < c.n → c.r k ≠ a := fun k hk e => wf.some hk (by rw [e]; exact ha)
  have h1a : c1.H a = some (.dK []) := le1.keep a _ upd_same na (fun _ z => by cases z)
  have nF : ¬ c1.F a := fun z => by
    obtain ⟨us, q⟩ := wf1.fl a z
    rw [h1a] at q; cases q
  have nr : ∀ k, k < c1.n → c1.r k ≠ a := fun k hk e => by
    by_cases hk2 : k < c.n
    · have := le1.rho k hk2
      rw [this] at e
      exact na k hk2 e
    · have z := le1.newR k (Nat.le_of_not_lt hk2) hk
      rw [e] at z
      have : (c.put a (.dK [])).H a = some (.dK []) := upd_same
      rw [this] at z; cases z
  split at p1
  · rename_i hz
    have em : mergeK [] (ks.zip vs) = ks.zip vs := merge_nodup (ks.zip vs) [] (by
      show ((ks.zip vs).map (·.1)).Nodup
      exact hz.2.sublist (zip_fst_sub ks vs))
    refine ⟨h1a, ks.zip vs, rfl, by rw [List.length_zip]; omega, ?_⟩
    rw [em]
    have le01 : Le c c1 := le0.trans le1
    have st2 := any_sta (ho := .dK (ks.zip vs)) h1a (fun _ z => by cases z) (fun _ _ z => by cases z) nF
    have le2 := any_le (ho := .dK (ks.zip vs)) le01 ha h1a (fun _ z => by cases z) (fun _ _ z => by cases z) nF
    have wf2 := any_wf (ho := .dK (ks.zip vs)) wf1 h1a (fun _ z => by cases z) (fun _ _ z => by cases z) nF nr
    have wf3 := grow_wf (a := a) (o := .dct (ks.zip ds)) wf2 ⟨ks.zip vs, upd_same, kv_zip (RelDs.mono st2 _ _ r1)⟩ nF nr
    refine p1 _ (.ref a) (grow_le le2 ha) wf3 ⟨?_, True.intro⟩
    show RelD X.K _ (.ref _) _
    unfold RelD
    have e : (c1.put a (.dK (ks.zip vs))).n = h1.length := wf2.sz
    rw [← e]
    exact ⟨Nat.lt_succ_self _, by rw [grow_n]⟩
  · exact False.elim p1
theorem sim_dct0 {pos : Pos} : PE X (.Dict [] [] pos) (tE X.K EW C G (.dct [] .nil)) := PE.imp pe_dnewK fun σ H Q w => by
  obtain ⟨He, c, h, env, rfl, wf, re, p⟩ := w
  unfold evalE evalEs at p
  intro a ha
  have le := put_le wf ha (.dK [])
  have wf2 := put_wf wf ha (.dK [])
  have nF : ¬ (c.put a (.dK [])).F a := fun z => by
    obtain ⟨us, q⟩ := wf.fl a z
    rw [ha] at q; cases q
  have nr : ∀ k, k < c.n → c.r k ≠ a := fun k hk e => wf.some hk (by rw [e]; exact ha)
  have wf3 := grow_wf (a := a) (o := .dct []) wf2 ⟨[], upd_same, by unfold RelKv; rfl⟩ nF nr
  refine p _ (.ref a) (grow_le le ha) wf3 ⟨?_, True.intro⟩
  show RelD X.K _ (.ref _) _
  unfold RelD
  have e : (c.put a (.dK [])).n = h.length := wf2.sz
  rw [← e]
  exact ⟨Nat.lt_succ_self _, by rw [grow_n]⟩
/-! ### methods of texts -/
def MthPrim (X : Cx) (EW : EWish) (m : Mth) (r : V → List V → Hp → VK → Prop) : Prop :=
  ∀ (c : Cfg) (h : Hh) (a : Str) (e : D) (v : V) (Q : VK), WF X.K c h → RelD X.K c e v → PostE X.K EW c Q (Res.of h (mthF m a [e])) → r (.str a) [v] c.H Q
theorem mth_red {m : Mth} {r : V → List V → Hp → VK → Prop} (pr : MthPrim X EW m r) {mo me : E} : ∀ σ H Q, tE X.K EW C G (.mth m mo (.cons me .nil)) σ H Q → tM1 r (tE X.K EW C G mo) (tE X.K EW C G me) σ H Q := fun σ H Q w => by
  obtain ⟨He, c, h, env, rfl, wf, re, p⟩ := w
  unfold evalE at p
  refine ⟨He, c, h, env, rfl, wf, re, p.bind fun x h1 c1 u le1 wf1 r1 p1 => ?_⟩
  replace p1 := PostE.lift le1 p1
  split at p1
  · rename_i a
    have q : RelD X.K c1 (.str a) u := r1.1
    unfold RelD at q
    subst q
    refine ⟨⟨a, rfl⟩, ?_⟩
    unfold evalEs evalEs at p1
    refine ⟨He, c1, h1, env, rfl, wf1, re.mono le1, ?_⟩
    cases q1 : evalE C G me env h1 with
    | bad => rw [q1] at p1; exact p1
    | ex y h2 => rw [q1] at p1; exact p1
    | ok y h2 =>
      rw [q1] at p1
      intro c2 v le2 wf2 r2
      simp only [Res.bind] at p1
      cases e : y.fz with
      | none => rw [e] at p1; exact False.elim p1
      | some d =>
        rw [e] at p1
        obtain ⟨c3, eH, le3, st3, wf3, r3⟩ := freeze_ans le2 wf2 r2 e
        rw [← eH]
        exact pr c3 h2 a d v Q wf3 r3 (PostE.lift le3 p1)
  · exact False.elim p1
theorem strs_rel {c : Cfg} : ∀ {l : List D} {vs : List V} {ys : List Str}, RelDs X.K c l vs → strsOf l = some ys → vs = ys.map V.str
  | [], vs, bs, h, e => by unfold RelDs at h; unfold strsOf at e; cases e; exact h
  | d :: l, vs, bs, h, e => by
    unfold RelDs at h
    obtain ⟨v, r, rfl, h1, h2⟩ := h
    cases d with
    | str b =>
      unfold strsOf at e
      cases q : strsOf l with
      | none => rw [q] at e; cases e
      | some bs' =>
        rw [q] at e; cases e
        unfold RelD at h1
        rw [h1, strs_rel h2 q] <;> rfl
    | _ => unfold strsOf at e; cases e
theorem rel_strs {c : Cfg} : ∀ (ys : List Str), RelDs X.K c (ys.map .str) (ys.map V.str)
  | [] => RelDs.nil
  | y :: ys => RelDs.cons (by unfold RelD; rfl) (rel_strs ys)
theorem sim_split {o e : Expr} {mo me : E} {apos pos : Pos} (ho : PE X o (tE X.K EW C G mo)) (he : PE X e (tE X.K EW C G me)) (hs : starEach [e] X.env = [(false, eval e X.env)] := by rfl)
    (hbase : attributeBase o "split" X.env (eval o X.env) = eval o X.env := by rfl) (hline : (apos.endLine == pos.line) = true := by rfl) : PE X (.Call (.Attribute o "split" apos) [e] [] pos) (tE X.K EW C G (.mth .split mo (.cons me .nil))) :=
  PE.imp (pe_split ho he hs hbase hline) (mth_red fun c h a d v Q wf r p => by
    replace p : PostE X.K EW c Q (Res.of h (splitF a [d])) := p
    unfold splitF at p
    split at p
    · rename_i b hb
      cases hb
      split at p
      · rename_i hz
        unfold RelD at r
        subst r
        exact ⟨a, b, rfl, rfl, hz.1, hz.2, fun q hq => PostE.newL wf hq (rel_strs _) (by assumption)⟩
      · exact False.elim p
    · exact False.elim p)
theorem sim_join {o e : Expr} {mo me : E} {apos pos : Pos} (ho : PE X o (tE X.K EW C G mo)) (he : PE X e (tE X.K EW C G me)) (hs : starEach [e] X.env = [(false, eval e X.env)] := by rfl)
    (hbase : attributeBase o "join" X.env (eval o X.env) = eval o X.env := by rfl) (hline : (apos.endLine == pos.line) = true := by rfl) : PE X (.Call (.Attribute o "join" apos) [e] [] pos) (tE X.K EW C G (.mth .join mo (.cons me .nil))) :=
  PE.imp (pe_join ho he hs hbase hline) (mth_red fun c h a d v Q wf r p => by
    replace p : PostE X.K EW c Q (Res.of h (joinF a [d])) := p
    unfold joinF at p
    split at p
    · rename_i l hb
      cases hb
      split at p
      · rename_i ys e1
        split at p
        · rename_i hz
          unfold RelD at r
          obtain ⟨b, vs, rfl, _, g1, g2⟩ := r
          exact ⟨a, b, ys, rfl, rfl, .inl (by rw [← strs_rel g2 e1]; exact .inl (.inl g1)), hz, PostE.here wf p relStr⟩
        · exact False.elim p
      · exact False.elim p
    · exact False.elim p)
/-! ### what is walked -/
/-- at each turn the next of these data, then an end, whatever else goes on -/
def ItOk (K : PySem.W.Frag) (c0 : Cfg) (ds : List D) (J : L2.It) : Prop := ∀ (c : Cfg) (h : Hh), Sta c0 c → WF K c h → ∀ i,
  (∀ d, ds[i]? = some d → J.go i c.H ∧ ∀ x H', J.yld i c.H x H' → ∃ c', c'.H = H' ∧ Le c c' ∧ WF K c' h ∧ RelD K c' d x) ∧ (ds.length ≤ i → J.stop i c.H)
end
def tI (K : PySem.W.Frag) (EW : EWish) (C : Calls') (G : Str → Option D) (it : Iter) : TI := fun σ H R => ∃ (He : Hp) (c : Cfg) (h : Hh) (env : Env'), c.H = H ∧ WF K c h ∧ RelEnv K He c env σ ∧ Post K EW c (fun c' ds J => ItOk K c' ds J) R (evalI C G it env h)
section
variable {X : Cx} {EW : EWish} {C : Calls'} {G : Str → Option D}
theorem itl_ok {c : Cfg} {h : Hh} (wf : WF X.K c h) {a : Addr} {vs : List V} {l : List D} (hF : c.F a) (h1 : c.H a = some (.lst vs)) (h2 : RelDs X.K c l vs) : ItOk X.K c l (Itl X.K a) := fun c' h' st wf' i => by
  have e1 : c'.H a = some (.lst vs) := st.fls a _ hF h1
  have sq : SqL X.K c'.H a vs := .inl (.inl e1)
  have r := RelDs.mono st _ _ h2
  refine ⟨fun d hd => ?_, fun hi => ⟨vs, sq, by rw [← RelDs.length h2]; exact hi⟩⟩
  obtain ⟨v, e2, r2⟩ := RelDs.get r hd
  refine ⟨⟨vs, v, sq, e2⟩, fun x H' y => ?_⟩
  obtain ⟨rfl, y⟩ := y
  have e3 := y vs sq
  rw [e2] at e3
  cases e3
  exact ⟨c', rfl, Le.refl c', wf', r2⟩
theorem itla_ok {c : Cfg} {h : Hh} (wf : WF X.K c h) {a : Addr} {vs : List V} {l : List D} (h1 : ArgL X.K c.H a vs) (h2 : RelDs X.K c l vs) : ItOk X.K c l (Itl X.K a) := fun c' h' st wf' i => by
  have sq : SqL X.K c'.H a vs := (argL_sta st h1).seq
  have r := RelDs.mono st _ _ h2
  refine ⟨fun d hd => ?_, fun hi => ⟨vs, sq, by rw [← RelDs.length h2]; exact hi⟩⟩
  obtain ⟨v, e2, r2⟩ := RelDs.get r hd
  refine ⟨⟨vs, v, sq, e2⟩, fun x H' y => ?_⟩
  obtain ⟨rfl, y⟩ := y
  have e3 := y vs sq
  rw [e2] at e3
  cases e3
  exact ⟨c', rfl, Le.refl c', wf', r2⟩
theorem itt_ok {c : Cfg} {h : Hh} (wf : WF X.K c h) {a : Addr} {vs : List V} {l : List D} (h1 : SqT X.K c.H a vs) (h2 : RelDs X.K c l vs) : ItOk X.K c l (Itt X.K a) := fun c' h' st wf' i => by
  have sq : SqT X.K c'.H a vs := sqT_sta st h1
  have r := RelDs.mono st _ _ h2
  refine ⟨fun d hd => ?_, fun hi => ⟨vs, sq, by rw [← RelDs.length h2]; exact hi⟩⟩
  obtain ⟨v, e2, r2⟩ := RelDs.get r hd
  refine ⟨⟨vs, v, sq, e2⟩, fun x H' y => ?_⟩
  obtain ⟨rfl, y⟩ := y
  have e3 := y vs sq
  rw [e2] at e3
  cases e3
  exact ⟨c', rfl, Le.refl c', wf', r2⟩
/-- a list's address, frozen where it is new -/
theorem itL_rel {c0 c : Cfg} {h : Hh} {x : R} {v : V} {l : List D} (le : Le c0 c) (wf : WF X.K c h) (hr : RE X.K c0 c x v) (e : itL x = some l) :
    ∃ c', c'.H = c.H ∧ Le c0 c' ∧ WF X.K c' h ∧ ∃ a, v = .ref a ∧ (∃ xs, SqL X.K c.H a xs) ∧ ∃ vs, RelDs X.K c' l vs ∧ ((c'.F a ∧ c'.H a = some (.lst vs)) ∨ ArgL X.K c'.H a vs) := by
  unfold itL at e
  split at e
  · cases e
    have q : RelD X.K c (.lst l) v := hr.1
    unfold RelD at q
    obtain ⟨a, vs, rfl, g0, g1, g2⟩ := q
    exact ⟨c, rfl, le, wf, a, rfl, ⟨vs, .inl (.inl g1)⟩, vs, g2, .inl ⟨g0, g1⟩⟩
  · cases e
    have q : RelD X.K c (.arg l) v := hr.1
    unfold RelD at q
    obtain ⟨a, vs, rfl, g1, g2⟩ := q
    exact ⟨c, rfl, le, wf, a, rfl, ⟨vs, g1.seq⟩, vs, g2, .inr g1⟩
  · cases e
    obtain ⟨⟨a, vs, rfl, g1, g2, g3, g4⟩, g5⟩ := hr
    exact ⟨c.freeze a, rfl, freeze_le le g5, freeze_wf wf g1 g3, a, rfl, ⟨vs, .inl (.inl g1)⟩, vs, RelDs.mono freeze_sta _ _ g4, .inl ⟨.inr rfl, g1⟩⟩
  · cases e
/-- a list, a tuple or a text walked -/
def iAny (K : PySem.W.Frag) (tl : TE) : TI := fun σ H R => tl σ H fun x H1 =>
  (∃ a, x = .ref a ∧ (∃ xs, SqL K H1 a xs) ∧ R (Itl K a) H1) ∨ (∃ a, x = .ref a ∧ (∃ xs, SqT K H1 a xs) ∧ R (Itt K a) H1) ∨ ∃ z, x = .str z ∧ R (Its z) H1
theorem pi_any {tg l : Expr} {tl : TE} (hl : PE X l tl) : PI X tg l (iAny X.K tl) := by
  refine ⟨fun pins s σ H R I w => thn (hl.run pins s σ H _ I w) fun v s1 ⟨x, H1, I1, r1, q1⟩ => ?_⟩
  rcases q1 with ⟨a, rfl, ⟨xs, hq⟩, q⟩ | ⟨a, rfl, ⟨xs, hq⟩, q⟩ | ⟨z, rfl, q⟩
  · cases r1
    obtain ⟨its, rv, p, hz⟩ := I1.list hq
    exact wpAny_pyIter_list p.isList (pi_one (tk := s1.toks) I1 _ (turn_list a _) ⟨_, Heap.get?_push_size _ rfl, rfl, rfl⟩ q)
  · cases r1
    obtain ⟨its, rv, p, hz⟩ := I1.tuple hq
    exact wpAny_pyIter_tuple (show s1.heap.IsTuple a its.toArray from p) (pi_one (tk := s1.toks) I1 _ (turn_tuple a _) ⟨_, Heap.get?_push_size _ rfl, rfl, rfl⟩ q)
  · obtain ⟨t, rfl⟩ := r1
    cases ha : z.cps.all (· < 128) with
    | false => exact wpAny_pyIter_wide ha (pi_one (tk := s1.toks) I1 _ (turn_str _ z t "str_iterator" (.inr rfl)) ⟨_, Heap.get?_push_size _ rfl, rfl, rfl⟩ q)
    | true => exact wpAny_pyIter_ascii ha (pi_one (tk := s1.toks) I1 _ (turn_str _ z t "str_ascii_iterator" (.inl rfl)) ⟨_, Heap.get?_push_size _ rfl, rfl, rfl⟩ q)
theorem its_ok {c : Cfg} {z : Str} : ItOk X.K c (signsL z) (Its z) := fun c' h' st wf' i => by
  have el : (signsL z).length = z.cps.size := by simp [signsL]
  refine ⟨fun d hd => ?_, fun hi => by rw [el] at hi; exact hi⟩
  have hi : i < z.cps.size := by rw [← el]; exact (List.getElem?_eq_some_iff.mp hd).1
  refine ⟨hi, fun x H' y => ?_⟩
  obtain ⟨rfl, n, e1, rfl⟩ := y
  refine ⟨c', rfl, Le.refl c', wf', ?_⟩
  have e2 : (signsL z)[i]? = some (.str ⟨#[n]⟩) := by
    unfold signsL
    rw [List.getElem?_map, Array.getElem?_toList, e1]
    rfl
  rw [e2] at hd
  cases hd
  unfold RelD
  rfl
theorem it_seq {tg l : Expr} {m : E} (hl : PE X l (tE X.K EW C G m)) : PI X tg l (tI X.K EW C G (.seq m)) := PI.imp (pi_any hl) fun σ H R' w => by
  obtain ⟨He, c, h, env, rfl, wf, re, p⟩ := w
  unfold evalI at p
  refine ⟨He, c, h, env, rfl, wf, re, p.bind fun x h1 c1 u le1 wf1 r1 p1 => ?_⟩
  cases e : itF x with
  | none => rw [e] at p1; exact False.elim p1
  | some l' =>
    rw [e] at p1
    have lst : ∀ l'', itL x = some l'' → l'' = l' → (∃ a, u = .ref a ∧ (∃ xs, SqL X.K c1.H a xs) ∧ R' (Itl X.K a) c1.H) := fun l'' e2 e3 => by
      subst e3
      obtain ⟨c2, eH, le2, wf2, a, rfl, sq, vs, g1, g2⟩ := itL_rel le1 wf1 r1 e2
      refine ⟨a, rfl, sq, ?_⟩
      rw [← eH]
      refine p1 c2 _ le2 wf2 ?_
      rcases g2 with ⟨g2, g3⟩ | g2
      · exact itl_ok wf2 g2 g3 g1
      · exact itla_ok wf2 g2 g1
    unfold itF at e
    split at e
    · cases e
      have q : RelD X.K c1 (.tup l') u := r1.1
      unfold RelD at q
      obtain ⟨a, vs, rfl, g1, g2⟩ := q
      exact .inr (.inl ⟨a, rfl, ⟨vs, g1⟩, p1 c1 _ le1 wf1 (itt_ok wf1 g1 g2)⟩)
    · cases e
      exact .inl (lst _ rfl rfl)
    · cases e
      exact .inl (lst _ rfl rfl)
    · rename_i z
      cases e
      have q : RelD X.K c1 (.str z) u := r1.1
      unfold RelD at q
      exact .inr (.inr ⟨z, q, p1 c1 _ le1 wf1 its_ok⟩)
    · cases e
      exact .inl (lst _ rfl rfl)
    · cases e
omit [Tb] in
theorem rng_get {lo : Int} {n i : Nat} {d : D} (h : (rngL lo n)[i]? = some d) : i < n ∧ d = .int (lo + (i : Nat)) := by
  unfold rngL at h
  have hi : i < n := by
    have := (List.getElem?_eq_some_iff.mp h).1
    simpa using this
  refine ⟨hi, ?_⟩
  rw [List.getElem?_map, List.getElem?_range hi] at h
  cases h
  rfl
theorem itr_ok {c : Cfg} {lo : Int} {n : Nat} : ItOk X.K c (rngL lo n) (Itr lo n) := fun c' h' st wf' i => by
  refine ⟨fun d hd => ?_, fun hi => by
    have : n ≤ i := by simpa [rngL] using hi
    exact this⟩
  obtain ⟨hi, rfl⟩ := rng_get hd
  refine ⟨hi, fun x H' y => ?_⟩
  obtain ⟨rfl, rfl⟩ := y
  exact ⟨c', rfl, Le.refl c', wf', by unfold RelD; rfl⟩
omit [Tb] in
theorem rngOk_ {j : Int} (h : rngOk j = true) : -(2 ^ 62) ≤ j ∧ j < 2 ^ 62 := by
  unfold rngOk at h
  simpa using h
theorem it_rng1 {tg a : Expr} {m : E} {p pos : Pos} (hm : X.mg "range" = none) (ha : PE X a (tE X.K EW C G m)) (hg : Gl X "range" := by rfl) (hs : starEach [a] X.env = [(false, eval a X.env)] := by rfl) :
    PI X tg (.Call (.Name "range" p) [a] [] pos) (tI X.K EW C G (.rng1 m)) := PI.imp (pi_range1 hg hm (pa_cons ha pa_nil hs) hs) fun σ H R' w => by
  obtain ⟨He, c, h, env, rfl, wf, re, p⟩ := w
  unfold evalI at p
  refine ⟨He, c, h, env, rfl, wf, re, p.bind fun x h1 c1 u le1 wf1 r1 p1 => ?_⟩
  split at p1
  · rename_i j
    split at p1
    · rename_i hj
      have hj := rngOk_ hj
      exact ⟨j, by rw [show u = V.int j from r1.1], hj.1, hj.2, p1 c1 _ le1 wf1 itr_ok⟩
    · exact False.elim p1
  · exact False.elim p1
theorem it_rng2 {tg a b : Expr} {m n : E} {p pos : Pos} (hm : X.mg "range" = none) (ha : PE X a (tE X.K EW C G m)) (hb : PE X b (tE X.K EW C G n)) (hg : Gl X "range" := by rfl)
    (hs : starEach [a, b] X.env = [(false, eval a X.env), (false, eval b X.env)] := by rfl) (hs2 : starEach [b] X.env = [(false, eval b X.env)] := by rfl) :
    PI X tg (.Call (.Name "range" p) [a, b] [] pos) (tI X.K EW C G (.rng2 m n)) := PI.imp (pi_range2 hg hm (pa_cons ha (pa_cons hb pa_nil hs2) (by rw [hs, hs2])) hs hs2) fun σ H R' w => by
  obtain ⟨He, c, h, env, rfl, wf, re, p⟩ := w
  unfold evalI at p
  refine ⟨He, c, h, env, rfl, wf, re, p.bind fun x h1 c1 u le1 wf1 r1 p1 => ?_⟩
  replace p1 := Post.lift le1 (fun _ _ _ h => h) p1
  refine ⟨He, c1, h1, env, rfl, wf1, re.mono le1, Post.bind (Rl1 := RE X.K c1) p1 fun y h2 c2 v le2 wf2 r2 p2 => ?_⟩
  split at p2
  · rename_i i j
    split at p2
    · rename_i hj
      simp only [Bool.and_eq_true] at hj
      have h1 := rngOk_ hj.1
      have h2 := rngOk_ hj.2
      exact ⟨i, j, by rw [show u = V.int i from r1.1, show v = V.int j from r2.1], ⟨h1.1, h1.2, h2.1, h2.2⟩, p2 c2 _ le2 wf2 itr_ok⟩
    · exact False.elim p2
  · exact False.elim p2
omit [Tb] in
theorem enum_get : ∀ {l : List D} {k i : Nat} {d : D}, (enumL k l)[i]? = some d → ∃ e, l[i]? = some e ∧ d = .tup [.int ((k + i : Nat) : Int), e]
  | [], k, i, d, h => by simp [enumL] at h
  | e :: l, k, 0, d, h => by
    simp [enumL] at h
    subst h
    exact ⟨e, rfl, rfl⟩
  | e :: l, k, i + 1, d, h => by
    have h' : (enumL (k + 1) l)[i]? = some d := by simpa [enumL] using h
    obtain ⟨e', g1, g2⟩ := enum_get h'
    exact ⟨e', by simpa using g1, by rw [g2]; congr 3; omega⟩
omit [Tb] in
theorem enum_length : ∀ (l : List D) (k : Nat), (enumL k l).length = l.length
  | [], _ => rfl
  | _ :: l, k => by simp [enumL, enum_length l]
theorem ite_ok {c : Cfg} {a : Addr} {vs : List V} {l : List D} (h1 : ∀ c', Sta c c' → SqL X.K c'.H a vs) (h2 : RelDs X.K c l vs) : ItOk X.K c (enumL 0 l) (Ite X.K a) := fun c' h' st wf' i => by
  have sq := h1 c' st
  have r := RelDs.mono st _ _ h2
  refine ⟨fun d hd => ?_, fun hi => ⟨vs, sq, by rw [← RelDs.length h2, ← enum_length l 0]; exact hi⟩⟩
  obtain ⟨e, g1, rfl⟩ := enum_get hd
  obtain ⟨v, e2, r2⟩ := RelDs.get r g1
  refine ⟨⟨vs, v, sq, e2⟩, fun x H' y => ?_⟩
  obtain ⟨T, x', rfl, hT, rfl, y⟩ := y
  have e3 := y vs sq
  rw [e2] at e3
  cases e3
  have le := put_le wf' hT (.tup [.int (i : Nat), v])
  refine ⟨c'.put T (.tup [.int (i : Nat), v]), rfl, le, put_wf wf' hT _, ?_⟩
  unfold RelD
  refine ⟨T, _, rfl, .inl (.inl upd_same), RelDs.cons ?_ (RelDs.one (RelD.mono le.toSta _ _ r2))⟩
  rw [Nat.zero_add]
  unfold RelD
  rfl
theorem iteT_ok {c : Cfg} {a : Addr} {vs : List V} {l : List D} (h1 : ∀ c', Sta c c' → SqT X.K c'.H a vs) (h2 : RelDs X.K c l vs) : ItOk X.K c (enumL 0 l) (IteT X.K a) := fun c' h' st wf' i => by
  have sq := h1 c' st
  have r := RelDs.mono st _ _ h2
  refine ⟨fun d hd => ?_, fun hi => ⟨vs, sq, by rw [← RelDs.length h2, ← enum_length l 0]; exact hi⟩⟩
  obtain ⟨e, g1, rfl⟩ := enum_get hd
  obtain ⟨v, e2, r2⟩ := RelDs.get r g1
  refine ⟨⟨vs, v, sq, e2⟩, fun x H' y => ?_⟩
  obtain ⟨T, x', rfl, hT, rfl, y⟩ := y
  have e3 := y vs sq
  rw [e2] at e3
  cases e3
  have le := put_le wf' hT (.tup [.int (i : Nat), v])
  refine ⟨c'.put T (.tup [.int (i : Nat), v]), rfl, le, put_wf wf' hT _, ?_⟩
  unfold RelD
  refine ⟨T, _, rfl, .inl (.inl upd_same), RelDs.cons ?_ (RelDs.one (RelD.mono le.toSta _ _ r2))⟩
  rw [Nat.zero_add]
  unfold RelD
  rfl
theorem it_enum {es : List Expr} {kk : Nat} {tpos : Pos} {a : Expr} {m : E} {p pos : Pos} (hm : X.mg "enumerate" = none) (ha : PE X a (tE X.K EW C G m)) (hg : Gl X "enumerate" := by rfl) (hs : starEach [a] X.env = [(false, eval a X.env)] := by rfl) :
    PI X (.Tuple es kk tpos) (.Call (.Name "enumerate" p) [a] [] pos) (tI X.K EW C G (.enum m)) := PI.imp (pi_enum2 hg hm (pa_cons ha pa_nil hs) hs) fun σ H R' w => by
  obtain ⟨He, c, h, env, rfl, wf, re, p⟩ := w
  unfold evalI at p
  refine ⟨He, c, h, env, rfl, wf, re, p.bind fun x h1 c1 u le1 wf1 r1 p1 => ?_⟩
  have lst : ∀ l', itL x = some l' → itE x = itL x → (∃ a xs, [u] = [V.ref a] ∧ SqL X.K c1.H a xs ∧ R' (Ite X.K a) c1.H) ∨ ∃ a xs, [u] = [V.ref a] ∧ SqT X.K c1.H a xs ∧ R' (IteT X.K a) c1.H := fun l' e q => by
    rw [q, e] at p1
    obtain ⟨c2, eH, le2, wf2, a, rfl, ⟨xs, sq⟩, vs, g1, g2⟩ := itL_rel le1 wf1 r1 e
    refine .inl ⟨a, xs, rfl, sq, ?_⟩
    show R' _ c1.H
    rw [← eH]
    refine p1 c2 _ le2 wf2 (ite_ok (vs := vs) (fun c' st => ?_) g1)
    rcases g2 with ⟨g2, g3⟩ | g2
    · exact .inl (.inl (st.fls a _ g2 g3))
    · exact (argL_sta st g2).seq
  have non : itE x = none → False := fun q => by rw [q] at p1; exact p1
  match x, r1, p1, lst, non with
  | .dat (.tup l), r1, p1, _, _ =>
    have q : RelD X.K c1 (.tup l) u := r1.1
    unfold RelD at q
    obtain ⟨a, vs, rfl, g1, g2⟩ := q
    exact .inr ⟨a, vs, rfl, g1, p1 c1 _ le1 wf1 (iteT_ok (fun c' st => sqT_sta st g1) g2)⟩
  | .dat (.lst l), _, _, lst, _ => exact lst _ rfl rfl
  | .dat (.arg l), _, _, lst, _ => exact lst _ rfl rfl
  | .new l, _, _, lst, _ => exact lst _ rfl rfl
  | .dat .non, _, _, _, non => exact (non rfl).elim
  | .dat (.bl _), _, _, _, non => exact (non rfl).elim
  | .dat (.int _), _, _, _, non => exact (non rfl).elim
  | .dat (.str _), _, _, _, non => exact (non rfl).elim
  | .dat (.ref _), _, _, _, non => exact (non rfl).elim
  | .dat (.sp _ _ _), _, _, _, non => exact (non rfl).elim
  | .bor _, _, _, _, non => exact (non rfl).elim
end
end Mi
/-! Mi6: targets, comprehensions, statements. -/
namespace Mi
open PySem PySem.Spec PyProof.Rows L2
variable [Tb]

/-! ### targets -/
def gNames : List Nat → TGs
  | [] => gNil
  | i :: is => gCons (gName i) (gNames is)
def gOf (K : PySem.W.Frag) : Tg → TG
  | .nm i => gName i
  | .tp is => gTup K is.length (gNames is)
def Tg.slots : Tg → List Nat
  | .nm i => [i]
  | .tp is => is
section
variable {K : PySem.W.Frag} {c : Cfg} {He : Hp}
theorem setVs_red : ∀ {is : List Nat} {ds : List D} {vs : List V} {env env' : Env'} {σ : L2.St} {Q : L2.St → Hp → Prop}, setVs env is ds = some env' → RelDs K c ds vs → RelEnv K He c env σ →
    (∀ σ', RelEnv K He c env' σ' → (∀ ws : List Nat, (∀ i ∈ is, i ∈ ws) → wipe σ' ws = wipe σ ws) → Q σ' c.H) → (∀ (i : Nat) (x : Option V) (ws : List Nat) (σ : L2.St), i ∈ ws → wipe (σ.set i x) ws = wipe σ ws) → gNames is vs σ c.H Q
  | [], [], vs, env, env', σ, Q, e, h, re, k, _ => by
    unfold setVs at e
    cases e
    unfold RelDs at h
    exact ⟨h, k σ re fun _ _ => rfl⟩
  | i :: is, d :: ds, vs, env, env', σ, Q, e, h, re, k, wi => by
    unfold setVs at e
    unfold RelDs at h
    obtain ⟨v, r, rfl, h1, h2⟩ := h
    refine ⟨v, r, rfl, ?_⟩
    show gNames is r (σ.set i (some v)) c.H Q
    refine setVs_red e h2 (re.put i h1) (fun σ' re' hw => k σ' re' fun ws hs => ?_) wi
    rw [hw ws fun j hj => hs j (List.mem_cons_of_mem _ hj)]
    exact wi i _ ws σ (hs i List.mem_cons_self)
  | [], _ :: _, _, _, _, _, _, e, _, _, _, _ => by unfold setVs at e; cases e
  | _ :: _, [], _, _, _, _, _, e, _, _, _, _ => by unfold setVs at e; cases e
theorem wipe_get {σ : L2.St} {i : Nat} : ∀ {vs : List Nat}, i ∈ vs → i < σ.length → (wipe σ vs)[i]? = some none
  | [], h, _ => by simp at h
  | v :: vs, h, hl => by
    unfold wipe
    by_cases e : i = v
    · subst e
      rw [List.getElem?_set_self (by rw [wipe_length]; exact hl)]
    · rw [List.getElem?_set_ne (Ne.symm e)]
      exact wipe_get ((List.mem_cons.mp h).resolve_left e) hl
theorem wipe_set (i : Nat) (x : Option V) (ws : List Nat) (σ : L2.St) (h : i ∈ ws) : wipe (σ.set i x) ws = wipe σ ws := by
  apply List.ext_getElem?
  intro j
  by_cases hj : j ∈ ws
  · by_cases hl : j < σ.length
    · rw [wipe_get hj hl, wipe_get hj (by simpa using hl)]
    · rw [List.getElem?_eq_none (by rw [wipe_length]; simpa using hl), List.getElem?_eq_none (by rw [wipe_length]; omega)]
  · rw [wipe_at hj, wipe_at hj, List.getElem?_set_ne (fun e => hj (by rw [← e]; exact h))]
theorem wipe_wipe (ws : List Nat) (σ : L2.St) : wipe (wipe σ ws) ws = wipe σ ws := by
  apply List.ext_getElem?
  intro j
  by_cases hj : j ∈ ws
  · by_cases hl : j < σ.length
    · rw [wipe_get hj hl, wipe_get hj (by rw [wipe_length]; exact hl)]
    · rw [List.getElem?_eq_none (by rw [wipe_length, wipe_length]; omega), List.getElem?_eq_none (by rw [wipe_length]; omega)]
  · rw [wipe_at hj]
/-- a target gets what is walked -/
theorem bind_red {t : Tg} {d : D} {x : V} {env env' : Env'} {σ : L2.St} {Q : L2.St → Hp → Prop} (e : t.bind env d = some env') (h : RelD K c d x) (re : RelEnv K He c env σ)
    (k : ∀ σ', RelEnv K He c env' σ' → (∀ ws : List Nat, (∀ i ∈ t.slots, i ∈ ws) → wipe σ' ws = wipe σ ws) → Q σ' c.H) : gOf K t x σ c.H Q := by
  cases t with
  | nm i =>
    cases e
    exact k _ (re.put i h) fun ws hs => wipe_set i _ ws σ (hs i (by simp [Tg.slots]))
  | tp is =>
    cases d with
    | tup ds =>
      have e : setVs env is ds = some env' := e
      unfold RelD at h
      obtain ⟨a, vs, rfl, h1, h2⟩ := h
      have el : ∀ (is : List Nat) (ds : List D) (env env' : Env'), setVs env is ds = some env' → ds.length = is.length := by
        intro is
        induction is with
        | nil =>
          intro ds env env' e
          cases ds with
          | nil => rfl
          | cons d ds => unfold setVs at e; cases e
        | cons i is ih =>
          intro ds env env' e
          cases ds with
          | nil => unfold setVs at e; cases e
          | cons d ds => unfold setVs at e; simp [ih _ _ _ e]
      exact ⟨a, vs, rfl, h1, by rw [← RelDs.length h2]; exact el _ _ _ _ e, setVs_red e h2 re k wipe_set⟩
    | _ => cases e
end
section
variable {X : Cx} {EW : EWish} {C : Calls'} {G : Str → Option D}
theorem tg_name (i : Nat) {x : Str} {pos : Pos} (hN : X.N.Nodup) (hi : X.N[i]? = some x := by rfl) (hx : Loc X.env.scope x := by first | exact Or.inl rfl | exact Or.inr rfl) (hf : X.fn x = true ∨ X.env.scope.names.lookup x = some .local := by first | exact .inl rfl | exact .inr rfl) :
    PG X (.Name x pos) (gOf X.K (.nm i)) := pg_name hN hi hx hf
theorem tgs_nil : PGs X [] (gNames []) := pgs_nil
theorem tgs_cons (i : Nat) {x : Str} {pos : Pos} {es : List Expr} {is : List Nat} (hN : X.N.Nodup) (h2 : PGs X es (gNames is)) (hi : X.N[i]? = some x := by rfl) (hx : Loc X.env.scope x := by first | exact Or.inl rfl | exact Or.inr rfl) (hf : X.fn x = true ∨ X.env.scope.names.lookup x = some .local := by first | exact .inl rfl | exact .inr rfl)
    (hs : (assignEach (.Name x pos :: es) X.env).map (·.2) = assign (.Name x pos) X.env :: (assignEach es X.env).map (·.2) := by rfl) : PGs X (.Name x pos :: es) (gNames (i :: is)) := pgs_cons (pg_name hN hi hx hf) h2 hs
theorem tg_tup {es : List Expr} {is : List Nat} {k : Nat} {pos : Pos} (hc : X.calm = true) (h : PGs X es (gNames is)) (hn : (assignEach es X.env).length = is.length := by rfl) (hst : (assignEach es X.env).findIdx? (·.1) = none := by rfl) : PG X (.Tuple es k pos) (gOf X.K (.tp is)) := pg_tup hc h hn hst
/-! ### comprehensions -/
abbrev EW0 : EWish := fun _ _ _ => False
def compG (C : Calls') (G : Str → Option D) (mc me : E) (env' : Env') (h2 : Hh) : Res (Option D) := (evalE C G mc env' h2).bind fun b h3 => match b with
      | .dat (.bl true) => (evalE C G me env' h3).bind fun x h4 => match x.fz with
        | some y => .ok (some y) h4
        | none => .bad
      | .dat (.bl false) => .ok none h3
      | _ => .bad
def compF (C : Calls') (G : Str → Option D) (own : List Nat) (t : Tg) (mc me : E) (env : Env') : D → Hh → Res (Option D) := fun d h2 => match t.bind (wipeE env own) d with
    | none => .bad
    | some env' => compG C G mc me env' h2
theorem lc_go {own : List Nat} {t : Tg} {mc me : E} (hsub : ∀ i ∈ t.slots, i ∈ own) {He : Hp} {c0 c1 : Cfg} {h1 : Hh} {env : Env'} {σ : L2.St} {Q : VK} {J : L2.It} {ds : List D} (wf1 : WF X.K c1 h1) (le1 : Le c0 c1) (re0 : RelEnv X.K He c0 env σ)
    (ok : ∀ (c : Cfg) (h : Hh), Le c0 c → Sta c1 c → WF X.K c h → ∀ i, (∀ d, ds[i]? = some d → J.go i c.H ∧ ∀ x H', J.yld i c.H x H' → ∃ c', c'.H = H' ∧ Le c c' ∧ WF X.K c' h ∧ RelD X.K c' d x) ∧ (ds.length ≤ i → J.stop i c.H))
    (p1 : PostE X.K EW c0 Q (compLoop (compF C G own t mc me env) ds [] h1)) : tLc (fun _ H R => R J H) (gOf X.K t) (tT X.K EW0 C G mc) (tE X.K EW0 C G me) own σ c1.H Q := by
  intro Dd hD
  have hD0 : c0.H Dd = none := Classical.byContradiction fun q => le1.stay _ q hD
  let Iv : Nat → Hp → Prop := fun i H => ∃ (c : Cfg) (h : Hh) (acc : List D), c.H = H ∧ WF X.K c h ∧ Le c0 c ∧ Sta c1 c ∧ OwnL X.K c acc (.ref Dd) ∧ PostE X.K EW c0 Q (compLoop (compF C G own t mc me env) (ds.drop i) acc h)
  refine ⟨fun i m H => m = ds.length - i ∧ i ≤ ds.length ∧ Iv i H, ⟨ds.length, by simp, Nat.zero_le _, c1.put Dd (.lst []), h1, [], rfl, put_wf wf1 hD _, le1.trans (put_le wf1 hD _), (put_le wf1 hD _).toSta, ⟨Dd, [], rfl, upd_same, fun z => ?_, fun k hk z => ?_, RelDs.nil⟩, p1⟩, ?_⟩
  · obtain ⟨us, q⟩ := wf1.fl Dd z
    rw [hD] at q; cases q
  · exact wf1.some hk (by rw [show c1.r k = Dd from z]; exact hD)
  rintro i m H ⟨rfl, hi, c, h, acc, rfl, wf, le, sta, own1, pl⟩
  by_cases hlt : i < ds.length
  · have hd : ds[i]? = some ds[i] := List.getElem?_eq_getElem hlt
    obtain ⟨go, yl⟩ := (ok c h le sta wf i).1 ds[i] hd
    refine .inr ⟨go, Iv (i + 1), fun H' q => ⟨ds.length - (i + 1), by omega, rfl, hlt, q⟩, fun x H' y => ?_⟩
    obtain ⟨c2, rfl, le2, wf2, rd⟩ := yl x H' y
    rw [List.drop_eq_getElem_cons hlt] at pl
    unfold compLoop at pl
    have ef : compF C G own t mc me env ds[i] h = match t.bind (wipeE env own) ds[i] with
      | none => .bad
      | some env' => compG C G mc me env' h := rfl
    rw [ef] at pl
    clear ef
    cases hb : t.bind (wipeE env own) ds[i] with
    | none => rw [hb] at pl; exact False.elim pl
    | some env' =>
      rw [hb] at pl
      replace pl : PostE X.K EW c0 Q (match compG C G mc me env' h with
        | .ok none h' => compLoop (compF C G own t mc me env) (ds.drop (i + 1)) acc h'
        | .ok (some x) h' => if acc.length < sizeLine then compLoop (compF C G own t mc me env) (ds.drop (i + 1)) (acc ++ [x]) h' else .bad
        | _ => .bad) := pl
      have reW : RelEnv X.K He c2 (wipeE env own) (wipe σ own) := ((re0.mono le).mono le2).wipe own
      refine bind_red hb rd reW fun σ' re' hw => ⟨(hw own hsub).trans (wipe_wipe own σ), ?_⟩
      refine ⟨He, c2, h, env', rfl, wf2, re', ?_⟩
      unfold compG at pl
      cases q1 : evalE C G mc env' h with
      | bad => rw [q1] at pl; exact False.elim pl
      | ex z hz => rw [q1] at pl; exact False.elim pl
      | ok b h3 =>
        rw [q1] at pl
        simp only [Res.bind] at pl
        intro c3 u le3 wf3 r3
        have own3 := OwnL.mono le3 (OwnL.mono le2 own1)
        have le03 := (le.trans le2).trans le3
        cases b with
        | new l => exact False.elim pl
        | bor l => exact False.elim pl
        | dat d0 =>
          cases d0 with
          | bl bb =>
            have q : RelD X.K c3 (.bl bb) u := r3.1
            unfold RelD at q
            refine ⟨bb, q, ?_⟩
            cases bb with
            | false =>
              rw [if_neg Bool.false_ne_true]
              exact ⟨c3, h3, acc, rfl, wf3, le03, (sta.trans le2.toSta).trans le3.toSta, own3, pl⟩
            | true =>
              rw [if_pos rfl]
              refine ⟨He, c3, h3, env', rfl, wf3, re'.mono le3, ?_⟩
              simp only at pl
              cases q2 : evalE C G me env' h3 with
              | bad => rw [q2] at pl; exact False.elim pl
              | ex z hz => rw [q2] at pl; exact False.elim pl
              | ok x5 h5 =>
                rw [q2] at pl
                simp only at pl
                intro c4 v le4 wf4 r4
                cases e5 : x5.fz with
                | none => rw [e5] at pl; exact False.elim pl
                | some y5 =>
                  rw [e5] at pl
                  simp only at pl
                  obtain ⟨c5, eH, le5, st5, wf5, r5⟩ := freeze_ans le4 wf4 r4 e5
                  obtain ⟨a5, vs5, ea, g1, g2, g3, g4⟩ := OwnL.mono le5 own3
                  cases ea
                  split at pl
                  · rename_i hz
                    refine ⟨vs5, by rw [← eH]; exact g1, by rw [← RelDs.length g4]; exact hz, ?_⟩
                    have st6 := own_sta (ws := vs5 ++ [v]) g1 g2
                    refine ⟨c5.put Dd (.lst (vs5 ++ [v])), h5, acc ++ [y5], by show upd c5.H Dd _ = _; rw [eH], own_wf wf5 g1 g2 g3, own_le (le03.trans le5) hD0 g1 g2, (((sta.trans le2.toSta).trans le3.toSta).trans le5.toSta).trans st6,
                      ⟨Dd, vs5 ++ [v], rfl, upd_same, g2, g3, (RelDs.mono st6 _ _ g4).append (RelDs.one (RelD.mono st6 _ _ r5))⟩, pl⟩
                  · exact False.elim pl
          | _ => exact False.elim pl
  · have e : i = ds.length := by omega
    subst e
    refine .inl ⟨(ok c h le sta wf _).2 (Nat.le_refl _), ?_⟩
    rw [List.drop_length] at pl
    unfold compLoop at pl
    exact pl c (.ref Dd) le wf ⟨own1, hD0⟩
theorem lc_red {own : List Nat} {t : Tg} {it : Iter} {mc me : E} (hsub : ∀ i ∈ t.slots, i ∈ own) : ∀ σ H Q, tE X.K EW C G (.comp own t it mc me) σ H Q → tLc (tI X.K EW C G it) (gOf X.K t) (tT X.K EW0 C G mc) (tE X.K EW0 C G me) own σ H Q := fun σ H Q w => by
  obtain ⟨He, c0, h0, env, rfl, wf0, re0, p⟩ := w
  unfold evalE at p
  have p : Post X.K EW c0 (RE X.K c0) Q ((evalI C G it env h0).bind fun ds h1 => compLoop (compF C G own t mc me env) ds [] h1) := p
  exact ⟨He, c0, h0, env, rfl, wf0, re0, p.bind fun ds h1 c1 J le1 wf1 ok p1 => lc_go hsub wf1 le1 re0 (fun c h _ st wf i => ok c h st wf i) p1⟩
theorem sim_comp {t : Tg} {it : Iter} {mc me : E} {elt tg iter : Expr} {ifs : List Expr} {scope : Scope} {pos : Pos} (own : List (Str × Nat)) (hc : X.calm = true) (hN : X.N.Nodup) (hi : PI X tg iter (tI X.K EW C G it)) (ok : blkC X.N X.env.scope scope own = true)
    (hsub : (t.slots.all fun i => (own.map (·.2)).contains i) = true)
    (hg : ∀ (s : Shared) (H : Hp) (C : Addr) (cl : List (Str × Addr)) (fp : List Addr), PG (X.blk s H scope (compEnvC scope cl C X.env) fp) tg (gOf X.K t))
    (ht : ∀ (s : Shared) (H : Hp) (C' : Addr) (cl : List (Str × Addr)) (fp : List Addr), PTs (X.blk s H scope (compEnvC scope cl C' X.env) fp) ifs (tT X.K EW0 C G mc))
    (he : ∀ (s : Shared) (H : Hp) (C' : Addr) (cl : List (Str × Addr)) (fp : List Addr), PE (X.blk s H scope (compEnvC scope cl C' X.env) fp) elt (tE X.K EW0 C G me)) (hs : ∀ x, foldedSetIterable iter X.env x = pure x := by intro _; rfl) :
    PE X (.ListComp elt [⟨tg, iter, ifs, 0⟩] scope pos) (tE X.K EW C G (.comp (own.map (·.2)) t it mc me)) := PE.imp (pe_lc hc hN hi (blkOk_by ok) hg ht he hs) (lc_red fun i hm => by
      have := List.all_eq_true.mp hsub i hm
      simpa using this)
theorem tsts_no : PTs X [] (tT X.K EW0 C G (.con (.bl true))) := by
  refine ⟨fun pins s σ H Q I w => ?_⟩
  refine (pts_nil (X := X)).run pins s σ H Q I ?_
  obtain ⟨He, c, h, env, rfl, wf, re, p⟩ := w
  unfold evalE at p
  obtain ⟨k, e, q⟩ := PostE.here wf p relBl
  cases e
  exact q
theorem tsts_one {e : Expr} {m : E} (h : PT X e (tT X.K EW0 C G m)) : PTs X [e] (tT X.K EW0 C G m) := pts_one h
end
end Mi
/-! Mi7: statements. -/
namespace Mi
open PySem PySem.Spec PyProof.Rows L2
variable [Tb]

/-- what follows a statement -/
def PostF (K : PySem.W.Frag) (ce c : Cfg) (D : Ends) : Fl → Prop
  | .nx env => ∀ σ, RelEnv K ce.H c env σ → D.nx σ c.H
  | .bk env => ∀ σ, RelEnv K ce.H c env σ → D.bk σ c.H
  | .ct env => ∀ σ, RelEnv K ce.H c env σ → D.ct σ c.H
  | .rt r => ∀ v, RelR K c r v → Fr ce.H r v → D.rt v c.H
def PostS (K : PySem.W.Frag) (EW : EWish) (ce c : Cfg) (D : Ends) : Res Fl → Prop
  | .bad => False
  | .ok fl h => ∀ c', Le ce c' → Sta c c' → WF K c' h → PostF K ce c' D fl
  | .ex x h => ∀ c', Le ce c' → WF K c' h → EW x c' h
section
variable (K : PySem.W.Frag) (EW : EWish) (C : Calls') (G : Str → Option D) (ce : Cfg)
def tS (s : S) : TS := fun D σ H => ∃ (c : Cfg) (h : Hh) (env : Env'), c.H = H ∧ WF K c h ∧ Le ce c ∧ RelEnv K ce.H c env σ ∧ PostS K EW ce c D (execS C G s env h)
def tSs (s : Ss) : TS := fun D σ H => ∃ (c : Cfg) (h : Hh) (env : Env'), c.H = H ∧ WF K c h ∧ Le ce c ∧ RelEnv K ce.H c env σ ∧ PostS K EW ce c D (execSs C G s env h)
end
section
variable {K : PySem.W.Frag} {EW : EWish} {ce c c1 : Cfg} {D : Ends}
theorem PostS.sta {res : Res Fl} (st : Sta c c1) (p : PostS K EW ce c D res) : PostS K EW ce c1 D res := by
  cases res with
  | bad => exact p
  | ex x h => exact p
  | ok fl h => exact fun c' l s w => p c' l (st.trans s) w
/-- an expression of a statement -/
theorem PostS.bindE {α β : Type} {res : Res α} {f : α → Hh → Res Fl} {Rl : Cfg → α → β → Prop} {Q : β → Hp → Prop} (le : Le ce c) (p : PostS K EW ce c D (res.bind f))
    (k : ∀ x h1 c1 v, Le c c1 → WF K c1 h1 → Rl c1 x v → PostS K EW ce c1 D (f x h1) → Q v c1.H) : Post K EW c Rl Q res := by
  cases res with
  | bad => exact p
  | ex x h => exact fun c' l w => p c' (le.trans l) w
  | ok x h => exact fun c' v l w r => k x h c' v l w r (PostS.sta l.toSta p)
end
section
variable {X : Cx} {EW : EWish} {C : Calls'} {G : Str → Option D} {ce : Cfg} {pos : Pos}
/-! ### blocks -/
theorem blk_nil : PSs X [] (tSs X.K EW C G ce .nil) := pss_nil.imp fun D σ H w => by
  obtain ⟨c, h, env, rfl, wf, le, re, p⟩ := w
  unfold execSs at p
  exact p c le (Sta.refl c) wf σ re
theorem blk_cons {st : Stmt} {rest : List Stmt} {m : S} {ms : Ss} (h1 : PS X st (tS X.K EW C G ce m)) (h2 : PSs X rest (tSs X.K EW C G ce ms)) : PSs X (st :: rest) (tSs X.K EW C G ce (.cons m ms)) := (pss_cons h1 h2).imp fun D σ H w => by
  obtain ⟨c, h, env, rfl, wf, le, re, p⟩ := w
  unfold execSs at p
  refine ⟨c, h, env, rfl, wf, le, re, ?_⟩
  cases q : execS C G m env h with
  | bad => rw [q] at p; exact p
  | ex x h' => rw [q] at p; exact p
  | ok fl h' =>
    rw [q] at p
    intro c' le' st' wf'
    cases fl with
    | nx env' => exact fun σ' re' => ⟨c', h', env', rfl, wf', le', re', PostS.sta st' p⟩
    | bk env' => exact p c' le' st' wf'
    | ct env' => exact p c' le' st' wf'
    | rt r => exact p c' le' st' wf'
/-- freezing an owned list is no statement of the program's -/
theorem blk_frz {rest : List Stmt} {i : Nat} {ms : Ss} (h2 : PSs X rest (tSs X.K EW C G ce ms)) : PSs X rest (tSs X.K EW C G ce (.cons (.frz i) ms)) := h2.imp fun D σ H w => by
  obtain ⟨c, h, env, rfl, wf, le, re, p⟩ := w
  unfold execSs execS at p
  cases e : env[i]? with
  | none => rw [e] at p; exact False.elim p
  | some s =>
    rw [e] at p
    cases s with
    | un => exact False.elim p
    | val d => exact False.elim p
    | own l =>
      obtain ⟨a, ea, ⟨a', vs, q, g1, g2, g3, g4⟩, hz⟩ := re.own e
      cases q
      have st := freeze_sta (c := c) (a := a)
      have hi : i < env.length := (List.getElem?_eq_some_iff.mp e).1
      have re2 : RelEnv X.K ce.H (c.freeze a) (setV env i (.lst l)) σ := by
        refine ⟨by unfold setV; simp [re.len], fun j s ej => ?_, fun j k l' m' b e1 e2 f1 f2 => ?_⟩
        · unfold setV at ej
          by_cases hj : j = i
          · subst hj
            rw [List.getElem?_set_self hi] at ej
            cases ej
            refine ⟨_, ea, .ref a, rfl, ?_⟩
            unfold RelD
            exact ⟨a, vs, rfl, .inr rfl, g1, RelDs.mono st _ _ g4⟩
          · rw [List.getElem?_set_ne (Ne.symm hj)] at ej
            obtain ⟨x, e1, e2⟩ := re.sl j s ej
            refine ⟨x, e1, ?_⟩
            cases s with
            | un => exact True.intro
            | val d => obtain ⟨v, q1, q2⟩ := e2; exact ⟨v, q1, RelD.mono st d v q2⟩
            | own l' =>
              obtain ⟨b, q1, ⟨b', us, q2, q3, q4, q5, q6⟩, q7⟩ := e2
              cases q2
              have nb : b ≠ a := fun z => by
                subst z
                exact hj (re.ap j i l' l b ej e (by rw [e1, q1]) ea)
              refine ⟨b, q1, ⟨b, us, rfl, q3, fun z => ?_, q5, RelDs.mono st _ _ q6⟩, q7⟩
              rcases z with z | z
              · exact q4 z
              · exact nb z
        · unfold setV at e1 e2
          have nj : j ≠ i := fun z => by
            subst z
            rw [List.getElem?_set_self hi] at e1; cases e1
          have nk : k ≠ i := fun z => by
            subst z
            rw [List.getElem?_set_self hi] at e2; cases e2
          rw [List.getElem?_set_ne (Ne.symm nj)] at e1
          rw [List.getElem?_set_ne (Ne.symm nk)] at e2
          exact re.ap j k l' m' b e1 e2 f1 f2
      exact ⟨c.freeze a, h, setV env i (.lst l), rfl, freeze_wf wf g1 g3, freeze_le le hz, re2, PostS.sta st p⟩
/-! ### stores -/
theorem asg_red {i : Nat} {m : E} : ∀ D σ H, tS X.K EW C G ce (.asg i m) D σ H → tAsg (tE X.K EW C G m) (gName i) D σ H := fun D σ H w => by
  obtain ⟨c, h, env, rfl, wf, le, re, p⟩ := w
  unfold execS at p
  refine ⟨ce.H, c, h, env, rfl, wf, re, PostS.bindE (Rl := RE X.K c) le p fun x h1 c1 v le1 wf1 r1 p1 => ?_⟩
  cases e : x.fz with
  | none => rw [e] at p1; exact False.elim p1
  | some d =>
    rw [e] at p1
    obtain ⟨c2, eH, le2, st2, wf2, r2⟩ := freeze_ans le1 wf1 r1 e
    show D.nx _ c1.H
    rw [← eH]
    exact p1 c2 (le.trans le2) st2 wf2 _ ((re.mono le2).put i r2)
theorem own_red {i : Nat} {m : E} : ∀ D σ H, tS X.K EW C G ce (.own i m) D σ H → tAsg (tE X.K EW C G m) (gName i) D σ H := fun D σ H w => by
  obtain ⟨c, h, env, rfl, wf, le, re, p⟩ := w
  unfold execS at p
  refine ⟨ce.H, c, h, env, rfl, wf, re, PostS.bindE (Rl := RE X.K c) le p fun x h1 c1 v le1 wf1 r1 p1 => ?_⟩
  cases x with
  | dat d => exact False.elim p1
  | bor l => exact False.elim p1
  | new l =>
    obtain ⟨ow, hf⟩ := r1
    have ow' := ow
    obtain ⟨a, vs, rfl, g1, g2, g3, g4⟩ := ow'
    have hf : c.H a = none := hf
    refine p1 c1 (le.trans le1) (Sta.refl c1) wf1 _ ((re.mono le1).putOwn i ow (Classical.byContradiction fun q => le.stay a q hf) fun j m' hj ej ea => ?_)
    obtain ⟨b, eb, ⟨b', us, q1, q2, _⟩, _⟩ := re.own ej
    cases q1
    rw [ea] at eb
    cases eb
    rw [hf] at q2; cases q2
section
variable {i : Nat} {x : Str} {e : Expr} {m : E} {px : Pos}
theorem st_asg (i : Nat) (hN : X.N.Nodup) (he : PE X e (tE X.K EW C G m)) (hi : X.N[i]? = some x := by rfl) (hx : Loc X.env.scope x := by first | exact Or.inl rfl | exact Or.inr rfl) (hs : swapsWith e (some (.Name x px)) pos.line X.env = pure false := by rfl)
    (hf : X.fn x = true ∨ X.env.scope.names.lookup x = some .local := by first | exact .inl rfl | exact .inr rfl) : PS X (.Assign [.Name x px] e pos) (tS X.K EW C G ce (.asg i m)) := (ps_set hN hi hx he hs hf).imp asg_red
theorem st_own (i : Nat) (hN : X.N.Nodup) (he : PE X e (tE X.K EW C G m)) (hi : X.N[i]? = some x := by rfl) (hx : Loc X.env.scope x := by first | exact Or.inl rfl | exact Or.inr rfl) (hs : swapsWith e (some (.Name x px)) pos.line X.env = pure false := by rfl)
    (hf : X.fn x = true ∨ X.env.scope.names.lookup x = some .local := by first | exact .inl rfl | exact .inr rfl) : PS X (.Assign [.Name x px] e pos) (tS X.K EW C G ce (.own i m)) := (ps_set hN hi hx he hs hf).imp own_red
end
/-- name = [.. for ..] on one line -/
theorem st_asgC {y : Str} {py : Pos} {t : Tg} {it : Iter} {mc me : E} {elt tg iter : Expr} {ifs : List Expr} {scope : Scope} {cpos : Pos} (i : Nat) (own : List (Str × Nat)) (hc : X.calm = true) (hN : X.N.Nodup) (hi : PI X tg iter (tI X.K EW C G it)) (ok : blkC X.N X.env.scope scope own = true)
    (hsub : (t.slots.all fun i => (own.map (·.2)).contains i) = true)
    (hg : ∀ (s : Shared) (H : Hp) (C : Addr) (cl : List (Str × Addr)) (fp : List Addr), PG (X.blk s H scope (compEnvC scope cl C X.env) fp) tg (gOf X.K t))
    (ht : ∀ (s : Shared) (H : Hp) (C' : Addr) (cl : List (Str × Addr)) (fp : List Addr), PTs (X.blk s H scope (compEnvC scope cl C' X.env) fp) ifs (tT X.K EW0 C G mc))
    (he : ∀ (s : Shared) (H : Hp) (C' : Addr) (cl : List (Str × Addr)) (fp : List Addr), PE (X.blk s H scope (compEnvC scope cl C' X.env) fp) elt (tE X.K EW0 C G me))
    (hsw : swapsWith (.ListComp elt [⟨tg, iter, ifs, 0⟩] scope cpos) (some (.Name y py)) pos.line X.env = pure true) (hy : X.N[i]? = some y := by rfl) (hyl : X.env.scope.names.lookup y = some .local := by rfl) (hs : ∀ x, foldedSetIterable iter X.env x = pure x := by intro _; rfl) :
    PS X (.Assign [.Name y py] (.ListComp elt [⟨tg, iter, ifs, 0⟩] scope cpos) pos) (tS X.K EW C G ce (.asg i (.comp (own.map (·.2)) t it mc me))) := (ps_setLc hc hN hy hyl hsw hi (blkOk_by ok) hg ht he hs).imp fun D σ H w => lc_red (fun i hm => by
      have := List.all_eq_true.mp hsub i hm
      simpa using this) σ H _ (asg_red D σ H w)
theorem st_ownC {y : Str} {py : Pos} {t : Tg} {it : Iter} {mc me : E} {elt tg iter : Expr} {ifs : List Expr} {scope : Scope} {cpos : Pos} (i : Nat) (own : List (Str × Nat)) (hc : X.calm = true) (hN : X.N.Nodup) (hi : PI X tg iter (tI X.K EW C G it)) (ok : blkC X.N X.env.scope scope own = true)
    (hsub : (t.slots.all fun i => (own.map (·.2)).contains i) = true)
    (hg : ∀ (s : Shared) (H : Hp) (C : Addr) (cl : List (Str × Addr)) (fp : List Addr), PG (X.blk s H scope (compEnvC scope cl C X.env) fp) tg (gOf X.K t))
    (ht : ∀ (s : Shared) (H : Hp) (C' : Addr) (cl : List (Str × Addr)) (fp : List Addr), PTs (X.blk s H scope (compEnvC scope cl C' X.env) fp) ifs (tT X.K EW0 C G mc))
    (he : ∀ (s : Shared) (H : Hp) (C' : Addr) (cl : List (Str × Addr)) (fp : List Addr), PE (X.blk s H scope (compEnvC scope cl C' X.env) fp) elt (tE X.K EW0 C G me))
    (hsw : swapsWith (.ListComp elt [⟨tg, iter, ifs, 0⟩] scope cpos) (some (.Name y py)) pos.line X.env = pure true) (hy : X.N[i]? = some y := by rfl) (hyl : X.env.scope.names.lookup y = some .local := by rfl) (hs : ∀ x, foldedSetIterable iter X.env x = pure x := by intro _; rfl) :
    PS X (.Assign [.Name y py] (.ListComp elt [⟨tg, iter, ifs, 0⟩] scope cpos) pos) (tS X.K EW C G ce (.own i (.comp (own.map (·.2)) t it mc me))) := (ps_setLc hc hN hy hyl hsw hi (blkOk_by ok) hg ht he hs).imp fun D σ H w => lc_red (fun i hm => by
      have := List.all_eq_true.mp hsub i hm
      simpa using this) σ H _ (own_red D σ H w)
/-- a, b = .. by a tuple -/
theorem st_asgs {es : List Expr} {is : List Nat} {k : Nat} {tp : Pos} {e : Expr} {m : E} (hc : X.calm = true) (he : PE X e (tE X.K EW C G m)) (hg : PGs X es (gNames is)) (hn : (assignEach es X.env).length = is.length := by rfl) (hst : (assignEach es X.env).findIdx? (·.1) = none := by rfl)
    (hs : swapsWithSole [.Tuple es k tp] e pos.line X.env = pure false := by rfl) (hw : swappedStores [.Tuple es k tp] e X.env = pure none := by rfl) (h1 : (assignEach [.Tuple es k tp] X.env).map (·.2) = [assign (.Tuple es k tp) X.env] := by rfl) :
    PS X (.Assign [.Tuple es k tp] e pos) (tS X.K EW C G ce (.asgs is m)) := (ps_asg he (tg_tup hc hg hn hst) hs hw h1).imp fun D σ H w => by
  obtain ⟨c, h, env, rfl, wf, le, re, p⟩ := w
  unfold execS at p
  refine ⟨ce.H, c, h, env, rfl, wf, re, PostS.bindE (Rl := RE X.K c) le p fun x h1 c1 v le1 wf1 r1 p1 => ?_⟩
  cases x with
  | new l => exact False.elim p1
  | bor l => exact False.elim p1
  | dat d =>
    cases d with
    | tup ds =>
      simp only at p1
      cases e : setVs env is ds with
      | none => rw [e] at p1; exact False.elim p1
      | some env' =>
        rw [e] at p1
        exact bind_red (t := .tp is) (d := .tup ds) e r1.1 (re.mono le1) fun σ' re' _ => p1 c1 (le.trans le1) (Sta.refl c1) wf1 σ' re'
    | _ => exact False.elim p1
/-- a, b = e1, e2, both locals -/
theorem st_par {a b : Expr} {ms : Es} {x y : Str} {px py pt pt2 : Pos} {kt k2 : Nat} (i j : Nat) (hc : X.calm = true) (hN : X.N.Nodup) (hes : PA X [a, b] (tA X.K EW C G ms)) (hw : swappedStores [.Tuple [.Name x px, .Name y py] kt pt] (.Tuple [a, b] k2 pt2) X.env = pure (some [x, y]))
    (hi : X.N[i]? = some x := by rfl) (hj : X.N[j]? = some y := by rfl) (hij : i ≠ j := by decide) (hx : X.env.scope.names.lookup x = some .local := by rfl) (hy : X.env.scope.names.lookup y = some .local := by rfl)
    (hs : swapsWithSole [.Tuple [.Name x px, .Name y py] kt pt] (.Tuple [a, b] k2 pt2) pos.line X.env = pure false := by rfl) :
    PS X (.Assign [.Tuple [.Name x px, .Name y py] kt pt] (.Tuple [a, b] k2 pt2) pos) (tS X.K EW C G ce (.asgs [i, j] (.tup ms))) := (ps_par hc hN hi hj hij hx hy hes hw hs).imp fun D σ H w => by
  obtain ⟨c, h, env, rfl, wf, le, re, p⟩ := w
  unfold execS evalE at p
  refine ⟨ce.H, c, h, env, rfl, wf, re, ?_⟩
  cases q : evalEs C G ms env h with
  | bad => rw [q] at p; exact False.elim p
  | ex z hz => rw [q] at p; exact fun c' l w => p c' (le.trans l) w
  | ok ds h1 =>
    rw [q] at p
    intro c1 vs le1 wf1 r1
    simp only [Res.bind] at p
    by_cases hz : ds.length ≤ sizeLine
    · rw [if_pos hz] at p
      simp only at p
      cases e : setVs env [i, j] ds with
      | none => rw [e] at p; exact False.elim p
      | some env' =>
        rw [e] at p
        cases ds with
        | nil => unfold setVs at e; cases e
        | cons d1 ds =>
          cases ds with
          | nil => unfold setVs setVs at e; cases e
          | cons d2 ds =>
            cases ds with
            | cons d3 ds => unfold setVs setVs setVs at e; cases e
            | nil =>
              unfold setVs setVs setVs at e
              cases e
              have r1 : RelDs X.K c1 [d1, d2] vs := r1
              unfold RelDs RelDs RelDs at r1
              obtain ⟨v, r, rfl, g1, w', r', rfl, g2, rfl⟩ := r1
              exact ⟨v, w', rfl, p c1 (le.trans le1) le1.toSta wf1 _ (((re.mono le1).put i g1).put j g2)⟩
    · rw [if_neg hz] at p
      exact False.elim p
theorem st_setL {o i e : Expr} {mo mi m : E} {pos' : Pos} (he : PE X e (tE X.K EW C G m)) (ho : PE X o (tE X.K EW C G mo)) (hi : PE X i (tE X.K EW C G mi)) (ha : ∀ v, assign (.Subscript o i pos') X.env v = (do
      let ov ← holding [v] (eval o X.env)
      let iv ← holding [v, ov] (eval i X.env)
      standAt pos'
      holding [v, ov, iv] (setItem ov iv v)
      release [v, ov, iv] []) := by intro _; rfl)
    (hs : swapsWithSole [.Subscript o i pos'] e pos.line X.env = pure false := by rfl) (hw : swappedStores [.Subscript o i pos'] e X.env = pure none := by rfl) (h1 : (assignEach [.Subscript o i pos'] X.env).map (·.2) = [assign (.Subscript o i pos') X.env] := by rfl) :
    PS X (.Assign [.Subscript o i pos'] e pos) (tS X.K EW C G ce (.setL mo mi m)) := (ps_asg he (pg_sub ho hi set_list ha) hs hw h1).imp fun D σ H w => by
  obtain ⟨c, h, env, rfl, wf, le, re, p⟩ := w
  unfold execS at p
  refine ⟨ce.H, c, h, env, rfl, wf, re, PostS.bindE (Rl := RE X.K c) le p fun x h1 c1 v le1 wf1 r1 p1 => ?_⟩
  cases e : x.fz with
  | none => rw [e] at p1; exact False.elim p1
  | some d =>
    rw [e] at p1
    obtain ⟨c2, eH, le2, st2, wf2, r2⟩ := freeze_ans le1 wf1 r1 e
    have lee := le.trans le2
    refine ⟨ce.H, c2, h1, env, eH, wf2, re.mono le2, PostS.bindE (Rl := RE X.K c2) lee (PostS.sta st2 p1) fun y h2 c3 u le3 wf3 r3 p3 => ?_⟩
    refine ⟨ce.H, c3, h2, env, rfl, wf3, (re.mono le2).mono le3, PostS.bindE (Rl := RE X.K c3) (lee.trans le3) p3 fun z h3 c4 t le4 wf4 r4 p4 => ?_⟩
    split at p4
    · rename_i n iz
      split at p4
      · rename_i l hl
        split at p4
        · rename_i j hj
          have q : RelD X.K c3 (.ref n) u := r3.1
          have q := RelD.mono le4.toSta _ _ q
          unfold RelD at q
          obtain ⟨hn, rfl⟩ := q
          obtain ⟨vs, g1, g2⟩ := wf4.obj n _ hl
          have rv := RelD.mono le4.toSta _ _ (RelD.mono le3.toSta _ _ r2)
          have lt := ref_le wf4 hn (.lst (vs.set j v))
          refine ⟨c4.r n, vs, iz, j, rfl, r4.1, g1, by rw [← RelDs.length g2]; exact hj, ?_⟩
          refine p4 (c4.put (c4.r n) (.lst (vs.set j v))) (((lee.trans le3).trans le4).trans lt) lt.toSta (ref_wf wf4 hn ⟨_, rfl, RelDs.set j g2 rv⟩) σ ((((re.mono le2).mono le3).mono le4).mono lt)
        · exact False.elim p4
      · exact False.elim p4
    · exact False.elim p4
theorem st_setD {o i e : Expr} {mo mi m : E} {pos' : Pos} (hu : X.A.units + 200 < cLine) (he : PE X e (tE X.K EW C G m)) (ho : PE X o (tE X.K EW C G mo)) (hi : PE X i (tE X.K EW C G mi)) (hs : swapsWith e (some (.Subscript o i pos')) pos.line X.env = pure false := by rfl) :
    PS X (.Assign [.Subscript o i pos'] e pos) (tS X.K EW C G ce (.setD mo mi m)) := (ps_dput (by omega) ho hi he hs).imp fun D σ H w => by
  obtain ⟨c, h, env, rfl, wf, le, re, p⟩ := w
  unfold execS at p
  refine ⟨ce.H, c, h, env, rfl, wf, re, PostS.bindE (Rl := RE X.K c) le p fun x h1 c1 v le1 wf1 r1 p1 => ?_⟩
  cases e : x.fz with
  | none => rw [e] at p1; exact False.elim p1
  | some d =>
    rw [e] at p1
    obtain ⟨c2, eH, le2, st2, wf2, r2⟩ := freeze_ans le1 wf1 r1 e
    have lee := le.trans le2
    refine ⟨ce.H, c2, h1, env, eH, wf2, re.mono le2, PostS.bindE (Rl := RE X.K c2) lee (PostS.sta st2 p1) fun y h2 c3 u le3 wf3 r3 p3 => ?_⟩
    refine ⟨ce.H, c3, h2, env, rfl, wf3, (re.mono le2).mono le3, PostS.bindE (Rl := RE X.K c3) (lee.trans le3) p3 fun z h3 c4 t le4 wf4 r4 p4 => ?_⟩
    split at p4
    · rename_i n kd
      split at p4
      · rename_i l kk hl hk
        split at p4
        · rename_i hz
          have q : RelD X.K c3 (.ref n) u := r3.1
          have q := RelD.mono le4.toSta _ _ q
          unfold RelD at q
          obtain ⟨hn, rfl⟩ := q
          obtain ⟨vs, g1, g2⟩ := wf4.obj n _ hl
          have rv := RelD.mono le4.toSta _ _ (RelD.mono le3.toSta _ _ r2)
          have lt := ref_le wf4 hn (.dK (putK vs kk v))
          refine ⟨c4.r n, upd c4.H (c4.r n) (.dK (putK vs kk v)), rfl, ?_, ?_⟩
          · rw [key_rel r4.1 hk]
            exact DPut.k g1 (by rw [← kv_length g2]; exact hz)
          · exact p4 (c4.put (c4.r n) (.dK (putK vs kk v))) (((lee.trans le3).trans le4).trans lt) lt.toSta (ref_wf wf4 hn ⟨_, rfl, kv_put g2 rv⟩) σ ((((re.mono le2).mono le3).mono le4).mono lt)
        · exact False.elim p4
      · exact False.elim p4
    · exact False.elim p4
theorem st_setOwn {x : Str} {px : Pos} {i e : Expr} {mi m : E} {pos' : Pos} (k : Nat) (he : PE X e (tE X.K EW C G m)) (hi : PE X i (tE X.K EW C G mi)) (ho : PE X (.Name x px) (tVar k)) (ha : ∀ v, assign (.Subscript (.Name x px) i pos') X.env v = (do
      let ov ← holding [v] (eval (.Name x px) X.env)
      let iv ← holding [v, ov] (eval i X.env)
      standAt pos'
      holding [v, ov, iv] (setItem ov iv v)
      release [v, ov, iv] []) := by intro _; rfl)
    (hs : swapsWithSole [.Subscript (.Name x px) i pos'] e pos.line X.env = pure false := by rfl) (hw : swappedStores [.Subscript (.Name x px) i pos'] e X.env = pure none := by rfl) (h1 : (assignEach [.Subscript (.Name x px) i pos'] X.env).map (·.2) = [assign (.Subscript (.Name x px) i pos') X.env] := by rfl) :
    PS X (.Assign [.Subscript (.Name x px) i pos'] e pos) (tS X.K EW C G ce (.setOwn k mi m)) := (ps_asg he (pg_sub ho hi set_list ha) hs hw h1).imp fun D σ H w => by
  obtain ⟨c, h, env, rfl, wf, le, re, p⟩ := w
  unfold execS at p
  refine ⟨ce.H, c, h, env, rfl, wf, re, PostS.bindE (Rl := RE X.K c) le p fun x h1 c1 v le1 wf1 r1 p1 => ?_⟩
  cases e : x.fz with
  | none => rw [e] at p1; exact False.elim p1
  | some d =>
    rw [e] at p1
    obtain ⟨c2, eH, le2, st2, wf2, r2⟩ := freeze_ans le1 wf1 r1 e
    have lee := le.trans le2
    have re2 := re.mono le2
    show tVar k σ c1.H _
    replace p1 := PostS.sta st2 p1
    simp only at p1
    cases ek : env[k]? with
    | none => rw [ek] at p1; exact False.elim p1
    | some s =>
      rw [ek] at p1
      cases s with
      | un => exact False.elim p1
      | val d' => exact False.elim p1
      | own l =>
        obtain ⟨a, ea, ow, hz⟩ := re2.own ek
        refine ⟨.ref a, ea, ?_⟩
        refine ⟨ce.H, c2, h1, env, eH, wf2, re2, PostS.bindE (Rl := RE X.K c2) lee p1 fun y h2 c3 u le3 wf3 r3 p3 => ?_⟩
        split at p3
        · rename_i z
          split at p3
          · rename_i j hj
            obtain ⟨a', vs, q, g1, g2, g3, g4⟩ := OwnL.mono le3 ow
            cases q
            have rv := RelD.mono le3.toSta _ _ r2
            have st4 := own_sta (ws := vs.set j v) g1 g2
            refine ⟨a, vs, z, j, rfl, r3.1, g1, by rw [← RelDs.length g4]; exact hj, ?_⟩
            exact p3 (c3.put a (.lst (vs.set j v))) (own_le (lee.trans le3) hz g1 g2) st4 (own_wf wf3 g1 g2 g3) σ ((re2.mono le3).write ek ea g1 g2 g3 hz (RelDs.mono st4 _ _ (RelDs.set j g4 rv)))
          · exact False.elim p3
        · exact False.elim p3
theorem st_app {x : Str} {px ap cp : Pos} {e : Expr} {m : E} (k : Nat) (he : PE X e (tE X.K EW C G m)) (ho : PE X (.Name x px) (tVar k)) (hbase : attributeBase (.Name x px) "append" X.env (eval (.Name x px) X.env) = eval (.Name x px) X.env := by rfl)
    (hfew : ((backTo cp (starEach [e] X.env)).all (fun x => !x.1) && (backToKw cp (keywordEach [] X.env)).all (fun x => x.1.isSome)
      && decide (([e] : List Expr).length + ([] : List Keyword).length + (if ([] : List Keyword).isEmpty then 0 else 1) < 30)) = true := by rfl)
    (hline : (ap.endLine == cp.line) = true := by rfl) (hs : starEach [e] X.env = (false, eval e X.env) :: starEach [] X.env := by rfl) (hplain : (backTo cp (starEach [] X.env)).any (·.1) = false := by rfl)
    (hsw : swapsWith (.Call (.Attribute (.Name x px) "append" ap) [e] [] cp) none pos.line X.env = pure false := by rfl) :
    PS X (.Expr (.Call (.Attribute (.Name x px) "append" ap) [e] [] cp) pos) (tS X.K EW C G ce (.app k m)) :=
  (ps_expr (pe_bm PySem.F.plainAttrs_list PySem.F.slot_list_append PySem.F.type_list_append mt_append ho (pa_cons he pa_nil hs) hbase hfew hline hs hplain) hsw).imp fun D σ H w => by
  obtain ⟨c, h, env, rfl, wf, le, re, p⟩ := w
  unfold execS at p
  cases ek : env[k]? with
  | none => rw [ek] at p; exact False.elim p
  | some s =>
    rw [ek] at p
    cases s with
    | un => exact False.elim p
    | val d' => exact False.elim p
    | own l =>
      obtain ⟨a, ea, ow, hz⟩ := re.own ek
      have ow' := ow
      obtain ⟨a0, vs0, q0, g0, _⟩ := ow'
      cases q0
      refine ⟨.ref a, ea, .inl ⟨rfl, vs0, .inl (.inl g0)⟩, ?_⟩
      refine ⟨ce.H, c, h, env, rfl, wf, re, PostS.bindE (Rl := RE X.K c) le p fun y h1 c1 v le1 wf1 r1 p1 => ?_⟩
      cases e1 : y.fz with
      | none => rw [e1] at p1; exact False.elim p1
      | some d =>
        rw [e1] at p1
        simp only at p1
        obtain ⟨c2, eH, le2, st2, wf2, r2⟩ := freeze_ans le1 wf1 r1 e1
        split at p1
        · rename_i hl
          obtain ⟨a', vs, q, g1, g2, g3, g4⟩ := OwnL.mono le2 ow
          cases q
          have st4 := own_sta (ws := vs ++ [v]) g1 g2
          refine ⟨a, vs, v, rfl, rfl, by rw [← eH]; exact g1, by rw [← RelDs.length g4]; exact hl, ?_⟩
          show D.nx σ (upd c1.H a (.lst (vs ++ [v])))
          rw [← eH]
          exact p1 (c2.put a (.lst (vs ++ [v]))) (own_le (le.trans le2) hz g1 g2) (st2.trans st4) (own_wf wf2 g1 g2 g3) σ ((re.mono le2).write ek ea g1 g2 g3 hz ((RelDs.mono st4 _ _ g4).append (RelDs.one (RelD.mono st4 _ _ r2))))
        · exact False.elim p1
/-! extend by a tuple -/
section
open PySem.AutoSeq1
end
/-! ### if, loops -/
theorem st_if {t : Expr} {a b : List Stmt} {m : E} {ma mb : Ss} (ht : PT X t (tT X.K EW C G m)) (ha : PSs X a (tSs X.K EW C G ce ma)) (hb : PSs X b (tSs X.K EW C G ce mb)) : PS X (.If t a b pos) (tS X.K EW C G ce (.ifs m ma mb)) := (ps_if ht ha hb).imp fun D σ H w => by
  obtain ⟨c, h, env, rfl, wf, le, re, p⟩ := w
  unfold execS at p
  refine ⟨ce.H, c, h, env, rfl, wf, re, PostS.bindE (Rl := RE X.K c) le p fun y h1 c1 v le1 wf1 r1 p1 => ?_⟩
  split at p1
  · have q : RelD X.K c1 (.bl true) v := r1.1
    unfold RelD at q
    refine ⟨true, q, ?_⟩
    show if true = true then _ else _
    rw [if_pos rfl]
    exact ⟨c1, h1, env, rfl, wf1, le.trans le1, re.mono le1, p1⟩
  · have q : RelD X.K c1 (.bl false) v := r1.1
    unfold RelD at q
    refine ⟨false, q, ?_⟩
    show if false = true then _ else _
    rw [if_neg Bool.false_ne_true]
    exact ⟨c1, h1, env, rfl, wf1, le.trans le1, re.mono le1, p1⟩
  · exact False.elim p1
theorem st_for {tg iter : Expr} {body : List Stmt} {t : Tg} {it : Iter} {mb : Ss} (hp : PassesOwn (model X.prog X.w) X.A X.env X.xe) (hc : X.calm = true) (hi : PI X tg iter (tI X.K EW C G it)) (hg : PG X tg (gOf X.K t)) (hb : PSs X body (tSs X.K EW C G ce mb))
    (hs : ∀ x, foldedSetIterable iter X.env x = pure x := by intro _; rfl) : PS X (.For tg iter body [] pos) (tS X.K EW C G ce (.for' t it mb)) := (ps_for hp hc hi hg hb hs).imp fun D σ H w => by
  obtain ⟨c0, h0, env0, rfl, wf0, le0, re0, p⟩ := w
  unfold execS at p
  refine ⟨ce.H, c0, h0, env0, rfl, wf0, re0, ?_⟩
  cases q : evalI C G it env0 h0 with
  | bad => rw [q] at p; exact p
  | ex x h' => rw [q] at p; exact fun c' l w => p c' (le0.trans l) w
  | ok ds h1 =>
    rw [q] at p
    intro c1 J le1 wf1 ok
    simp only [Res.bind] at p
    refine ⟨fun i m σ' H' => m = ds.length - i ∧ i ≤ ds.length ∧ ∃ (c : Cfg) (h : Hh) (env : Env'), c.H = H' ∧ WF X.K c h ∧ Le ce c ∧ Sta c1 c ∧ RelEnv X.K ce.H c env σ' ∧ PostS X.K EW ce c D (forLoop t (fun env' h' => execSs C G mb env' h') (ds.drop i) env h),
      ⟨ds.length, by simp, Nat.zero_le _, c1, h1, env0, rfl, wf1, le0.trans le1, Sta.refl c1, re0.mono le1, PostS.sta le1.toSta p⟩, ?_⟩
    rintro i m σ' H' ⟨rfl, hi, c, h, env, rfl, wf, le, sta, re, pl⟩
    by_cases hlt : i < ds.length
    · have hd : ds[i]? = some ds[i] := List.getElem?_eq_getElem hlt
      obtain ⟨go, yl⟩ := (ok c h sta wf i).1 ds[i] hd
      refine .inr ⟨go, fun σ'' H'' => i + 1 ≤ ds.length ∧ ∃ (c : Cfg) (h : Hh) (env : Env'), c.H = H'' ∧ WF X.K c h ∧ Le ce c ∧ Sta c1 c ∧ RelEnv X.K ce.H c env σ'' ∧ PostS X.K EW ce c D (forLoop t (fun env' h' => execSs C G mb env' h') (ds.drop (i + 1)) env h),
        fun σ'' H'' ⟨q1, q2⟩ => ⟨ds.length - (i + 1), by omega, rfl, q1, q2⟩, fun x H'' y => ?_⟩
      obtain ⟨c2, rfl, le2, wf2, rd⟩ := yl x H'' y
      rw [List.drop_eq_getElem_cons hlt] at pl
      unfold forLoop at pl
      cases hb : t.bind env ds[i] with
      | none => rw [hb] at pl; exact False.elim pl
      | some env1 =>
        rw [hb] at pl
        simp only at pl
        refine bind_red hb rd (re.mono le2) fun σ2 re2 _ => ?_
        refine ⟨c2, h, env1, rfl, wf2, le.trans le2, re2, ?_⟩
        have st2 := sta.trans le2.toSta
        cases q3 : execSs C G mb env1 h with
        | bad => rw [q3] at pl; exact pl
        | ex x h' => rw [q3] at pl; exact pl
        | ok fl h2 =>
          rw [q3] at pl
          intro c3 le3 st3 wf3
          cases fl with
          | nx env2 => exact fun σ3 re3 => ⟨hlt, c3, h2, env2, rfl, wf3, le3, st2.trans st3, re3, PostS.sta (le2.toSta.trans st3) pl⟩
          | ct env2 => exact fun σ3 re3 => ⟨hlt, c3, h2, env2, rfl, wf3, le3, st2.trans st3, re3, PostS.sta (le2.toSta.trans st3) pl⟩
          | bk env2 => exact fun σ3 re3 => pl c3 le3 (le2.toSta.trans st3) wf3 σ3 re3
          | rt r => exact fun v rr fr => pl c3 le3 (le2.toSta.trans st3) wf3 v rr fr
    · have e : i = ds.length := by omega
      subst e
      refine .inl ⟨(ok c h sta wf _).2 (Nat.le_refl _), ?_⟩
      rw [List.drop_length] at pl
      unfold forLoop at pl
      exact pl c le (Sta.refl c) wf σ' re
/-! ### ends -/
theorem st_ret {e : Expr} {m : E} (he : PE X e (tE X.K EW C G m)) : PS X (.Return (some e) pos) (tS X.K EW C G ce (.ret m)) := (ps_ret he).imp fun D σ H w => by
  obtain ⟨c, h, env, rfl, wf, le, re, p⟩ := w
  unfold execS at p
  refine ⟨ce.H, c, h, env, rfl, wf, re, PostS.bindE (Rl := RE X.K c) le p fun y h1 c1 v le1 wf1 r1 p1 => ?_⟩
  cases y with
  | bor l => exact False.elim p1
  | new l => exact p1 c1 (le.trans le1) (Sta.refl c1) wf1 v r1.1 (Fr.mono le r1.2)
  | dat d => exact p1 c1 (le.trans le1) (Sta.refl c1) wf1 v r1.1 True.intro
theorem st_retV {x : Str} {px : Pos} (k : Nat) (ho : PE X (.Name x px) (tVar k)) : PS X (.Return (some (.Name x px)) pos) (tS X.K EW C G ce (.retV k)) := (ps_ret ho).imp fun D σ H w => by
  obtain ⟨c, h, env, rfl, wf, le, re, p⟩ := w
  unfold execS at p
  cases ek : env[k]? with
  | none => rw [ek] at p; exact False.elim p
  | some s =>
    rw [ek] at p
    cases s with
    | un => exact False.elim p
    | val d' => exact False.elim p
    | own l =>
      obtain ⟨a, ea, ow, hz⟩ := re.own ek
      exact ⟨.ref a, ea, p c le (Sta.refl c) wf (.ref a) ow hz⟩
/-! what is returned, where a list that a name owns may be handed on in a branch -/
end
end Mi
/-! Mi8: defs, all at once; the law's own call. -/
namespace Mi
open PySem PySem.Spec PyProof.Rows L2
variable [Tb]

/-- a def keeps a promise wherever nothing is being shown (so that a list's text can be reckoned) -/
structure FnG (P : Program) (w : World) (K : PySem.W.Frag) (mg : Str → Option Value) (base : Heap) (CX : CXT) (k : Nat) (f : Addr) (fd : FuncData) (ps : List Str) (sp : Sp) : Prop where
  len : ∀ vs H Q E, sp vs H Q E → vs.length = ps.length
  run : ∀ (A : Around) (outer : List Env) (s : Shared) (H : Hp) (args : Args) (us : List Value) (vs : List V) (Q : VK) (E : XK), Room k A → A.guards = some [] → Env0 P w K mg base A outer s H →
    BindsTo s fd args (ps.zip us) → Vals vs us → sp vs H Q E → codeAny (model P w) A (.call (.ref f) args) (CR CX outer P w H s Q E) s
section
variable {P : Program} {w : World} {K : PySem.W.Frag} {mg : Str → Option Value} {base : Heap}
theorem FnG.mono {CX : CXT} {j k : Nat} {f : Addr} {fd : FuncData} {ps : List Str} {sp : Sp} (F : FnG P w K mg base CX j f fd ps sp) (h : j ≤ k) : FnG P w K mg base CX k f fd ps sp :=
  ⟨F.len, fun A outer s H args us vs Q E r => F.run A outer s H args us vs Q E (r.mono h)⟩
/-- by its body -/
theorem fnG_of {CX : CXT} {k : Nat} {x qual : Str} {st : Stmt} {f : Addr} {fd : FuncData} {N ps : List Str} {sp : Sp} (F : Fun K x qual st f fd) (S : FnScope N ps (defScope st)) (len : ∀ vs H Q E, sp vs H Q E → vs.length = ps.length)
    (body : ∀ (cdv : Value), fd.code = cdv → ∀ (A : Around) (outer : List Env) (s : Shared) (H : Hp) (vs : List V) (Q : VK) (E : XK), Room k (A.deeper (envOfC qual (defScope st) s.heap.objs.size f cdv)) → A.guards = some [] → sp vs H Q E →
      ∃ t, PSs (cxOf CX P w K mg base N qual (defScope st) f cdv A outer s H E) (defBody st) t ∧ t { nx := fun _ H' => Q .non H', rt := Q } (L2.start N vs) H) : FnG P w K mg base CX (k + 1) f fd ps sp := by
  obtain ⟨oc, od, kV, doc, pm, an, cdv, ct, osl, rfl, lk, hcd⟩ := F.ex
  refine ⟨len, fun A outer s H args us vs Q E hr hgd e0 hb r hsp => ?_⟩
  have hlen := len vs H Q E hsp
  have KX : K.In s.heap := e0.mod.kin.keeps fun b o z => (e0.bs b o z).1
  have lim : s.heap.NoLimit := e0.mod.nolimit.keeps fun b o z => (e0.bs b o z).1
  have kinds : ∀ y ∈ ps.zip us, (defScope st).names.lookup y.1 = some .local ∨ ((defScope st).names.lookup y.1 = some .cell ∧ ((cellsFrom (s.heap.objs.size + 1) (defScope st).names []).lookup y.1).isSome = true) := by
    rintro ⟨n, v⟩ hy
    cases S.par n (List.of_mem_zip hy).1 with
    | inl q => exact .inl q
    | inr q => exact .inr ⟨q, PySem.W.cellsFrom_some _ _ _ (.inl q)⟩
  refine codeAny_call_function hr.depth (KX f _ lk) rfl S.co S.gen rfl (PySem.W.codeRec_of KX hcd) (hb _ _ _ _ (wpAny_newFunctionEnv_cells S.kind kinds fun env he s1 ic => ?_))
  subst he
  refine ⟨lim.keeps ic.toInCall.keep, codeAny_func ?_⟩
  obtain ⟨t, ht, q⟩ := body cdv rfl A outer s H vs Q E (hr.deeper _) hgd hsp
  have I := inv_start (CX := CX) (E := E) S hr.hd e0 hlen r ic
  have back : ∀ {σ' : L2.St} {H' : Hp} {v : V} {u : Value} {s' : Shared}, Inv (cxOf CX P w K mg base N qual (defScope st) f cdv A outer s H E) [] σ' H' s' → RelV v u → Q v H' → CE outer P w H s Q u s' :=
    fun {σ' H' v u s'} J rv qv => ⟨v, H', J.os, J.bare, J.base, J.hok, rv, qv⟩
  refine wpAny_mono (ht.run [] s1 (L2.start N vs) H _ I q) (fun fl s' z => ?_) fun _ _ z => z
  cases fl with
  | brk => obtain ⟨_, _, _, z⟩ := z; exact z.elim
  | cont => obtain ⟨_, _, _, z⟩ := z; exact z.elim
  | next =>
    obtain ⟨σ', H', J, z⟩ := z
    exact back (v := .non) (u := Value.none) J rfl z
  | ret u =>
    obtain ⟨v, σ', H', J, rv, z⟩ := z
    exact back J rv z
end
section
variable {X : Cx} {CX : CXT} {k : Nat} {f : Addr} {fd : FuncData} {ps : List Str} {sp : Sp} {E : XK}
theorem run_G {pins : List (Addr × Obj)} {σ : L2.St} {H : Hp} {s : Shared} {Q : VK} {us : List Value} {vs : List V} (F : FnG X.prog X.w X.K X.mg X.base CX k f fd ps sp) (hr : Room k X.A) (hgd : X.A.guards = some []) (hb : Binds X.K fd ps []) (hx : Passes CX X E)
    (I : Inv X pins σ H s) (r : Vals vs us) (h : sp vs H Q E) : wpAny (model X.prog X.w) X.A (call (.ref f) us) (EP X pins σ Q) X.xe s := by
  have hl : us.length = ps.length := r.length.symm.trans (F.len vs H Q E h)
  have bt : BindsTo s fd ⟨us, []⟩ (ps.zip us) := by
    have := hb s us I.kIn (by rw [List.append_nil]; exact hl)
    rwa [List.append_nil] at this
  refine wpAny_call (codeAny_mono (F.run X.A X.stack s H ⟨us, []⟩ us vs Q E hr hgd I.env0 bt r h) fun res s' z => ?_)
  match res, z with
  | .error e, z => exact hx pins σ H s e s' I z
  | .ok (.ret u), z => exact I.after z
  | .ok .next, z => exact z.elim
  | .ok .brk, z => exact z.elim
  | .ok .cont, z => exact z.elim
end
/-- how an exception of the evaluator lies in the heap: its class, its dict -/
def RelX (K : PySem.W.Frag) (c : Cfg) (x : Exc) (cls : Value) (d : Option Addr) : Prop :=
  refusals.contains x.cls = true ∧ ∃ C, glA K x.cls = some C ∧ cls = .ref C ∧ ((x.fs = [] ∧ d = none) ∨ ∃ dd fs vs, d = some dd ∧ c.H dd = some (.xd fs) ∧ RelDs K c x.fs vs ∧ ∀ (i : Nat) (n : Str), (fldN x.cls)[i]? = some n → fs.lookup n = vs[i]?)
/-- the layer's wish as the evaluator's -/
def ofE (K : PySem.W.Frag) (E : XK) : EWish := fun x c _ => ∀ cls d, RelX K c x cls d → E cls d c.H
/-- the evaluator's wish as the layer's -/
def toE (K : PySem.W.Frag) (EW : EWish) : XK := fun cls d H => ∃ x c h, c.H = H ∧ WF K c h ∧ RelX K c x cls d ∧ EW x c h
/-- what a def promises: what the evaluator says -/
def spM (K : PySem.W.Frag) (C : Calls') (f : Str) (n : Nat) : Sp := fun vs H Q E => vs.length = n ∧ ∃ (c : Cfg) (h : Hh) (ds : List D), c.H = H ∧ WF K c h ∧ RelDs K c ds vs ∧ PostE K (ofE K E) c Q (C f ds h)
/-- the defs that may be called -/
def CallsOk (P : Program) (w : World) (K : PySem.W.Frag) (mg : Str → Option Value) (base : Heap) (k : Nat) (C : Calls') (f : Str) : Prop :=
  ∃ (fa : Addr) (fd : FuncData) (ps : List Str), mg f = some (.ref fa) ∧ glA K f = some fa ∧ PySem.W.keepIn K (.ref fa) = true ∧ Binds K fd ps [] ∧ FnG P w K mg base (L2.CX P w) k fa fd ps (spM K C f ps.length) ∧ ∀ (ds : List D) (h : Hh), ds.length ≠ ps.length → C f ds h = .bad
section
variable {X : Cx} {EW : EWish} {C : Calls'} {G : Str → Option D}
theorem PostE.ofTo {K : PySem.W.Frag} {c : Cfg} {Q : VK} {res : Res R} (p : PostE K EW c Q res) : PostE K (ofE K (toE K EW)) c Q res := by
  cases res with
  | bad => exact p
  | ok r h => exact p
  | ex x h => exact fun c' l w cls d r => ⟨x, c', h, rfl, w, r, p c' l w⟩
theorem call_red {f : Str} {n : Nat} {ms : Es} (hb : ∀ (ds : List D) (h : Hh), ds.length ≠ n → C f ds h = .bad) : ∀ σ H Q, tE X.K EW C G (.call f ms) σ H Q → tA X.K EW C G ms σ H (fun vs H1 => spM X.K C f n vs H1 Q (toE X.K EW)) := fun σ H Q w => by
  obtain ⟨He, c, h, env, rfl, wf, re, p⟩ := w
  unfold evalE at p
  refine ⟨He, c, h, env, rfl, wf, re, p.bind fun ds h1 c1 vs le1 wf1 r1 p1 => ?_⟩
  by_cases hl : ds.length = n
  · exact ⟨by rw [← RelDs.length r1]; exact hl, c1, h1, ds, rfl, wf1, r1, PostE.ofTo (PostE.lift le1 p1)⟩
  · rw [hb ds h1 hl] at p1
    exact False.elim p1
theorem sim_call {f : Str} {k : Nat} {e : Expr} {es : List Expr} {ms : Es} {p pos : Pos} (ok : CallsOk X.prog X.w X.K X.mg X.base k C f) (hr : Room k X.A) (hgd : X.A.guards = some []) (tk : Takes X fun cls d _ H => toE X.K EW cls d H) (ha : PA X (e :: es) (tA X.K EW C G ms)) (hg : Gl X f := by rfl)
    (hdb : (f == ("__debug__" : Str)) = false := by decide) (he : starEach (e :: es) X.env = (false, eval e X.env) :: starEach es X.env := by rfl) (hpl : (backTo pos (starEach es X.env)).any (·.1) = false := by rfl) : PE X (.Call (.Name f p) (e :: es) [] pos) (tE X.K EW C G (.call f ms)) := by
  obtain ⟨fa, fd, ps, h1, h1g, h2, h3, F, h4⟩ := ok
  refine ⟨fun pins s σ H Q I w => ?_⟩
  refine wpAny_Call_Name_kw (ld_glob I hg h1 ?_ hdb)
  refine PySem.W.callWith_K (h₀ := X.base) I.ok.mod.kin h2 (thn (ha.run pos pins s σ H _ I (call_red h4 σ H Q w)) fun us s1 ⟨vs, H1, I1, r, q⟩ => ⟨I1.kIn, ?_⟩) he hpl
  exact run_G F hr hgd h3 (passes_call tk fun _ _ _ _ h => h) I1 r q
theorem sim_call0 {f : Str} {k : Nat} {p pos : Pos} (ok : CallsOk X.prog X.w X.K X.mg X.base k C f) (hr : Room k X.A) (hgd : X.A.guards = some []) (tk : Takes X fun cls d _ H => toE X.K EW cls d H) (hg : Gl X f := by rfl)
    (hdb : (f == ("__debug__" : Str)) = false := by decide) : PE X (.Call (.Name f p) [] [] pos) (tE X.K EW C G (.call f .nil)) := by
  obtain ⟨fa, fd, ps, h1, h1g, h2, h3, F, h4⟩ := ok
  refine ⟨fun pins s σ H Q I w => ?_⟩
  refine wpAny_Call_Name_kw (ld_glob I hg h1 ?_ hdb)
  refine PySem.W.callWith_K0 I.kIn h2 (run_G (us := []) F hr hgd h3 (passes_call tk fun _ _ _ _ h => h) I .nil ?_)
  obtain ⟨He, c, h, env, rfl, wf, re, q⟩ := call_red h4 σ H Q w
  unfold evalEs at q
  exact q c [] (Le.refl c) wf RelDs.nil
end
/-! ### all defs of a table -/
/-- what a body may lean on -/
structure Has (X : Cx) (EW : EWish) (k : Nat) (C : Calls') (G : Str → Option D) (T : Tab) (bs : List Str) : Prop where
  room : Room k X.A
  gd : X.A.guards = some []
  glob : Glob X.K X.mg G
  call : ∀ f d, T f = some d → CallsOk X.prog X.w X.K X.mg X.base k C f
  blt : ∀ b ∈ bs, X.mg b = none
  tk : Takes X fun cls d _ H => toE X.K EW cls d H
  nul : ∀ f, T f = Option.none → ∀ (ds : List D) (h : Hh), C f ds h = .bad
/-- and where a lambda may be made -/
structure HasB (X : Cx) (EW : EWish) (k : Nat) (C : Calls') (G : Str → Option D) (T : Tab) (bs : List Str) : Prop extends Has X EW k C G T bs where
  room2 : Room (k + 2) X.A
section
variable {X : Cx} {EW : EWish} {k : Nat} {C : Calls'} {G : Str → Option D} {T : Tab} {bs : List Str}
theorem Has.hu (h : Has X EW k C G T bs) : X.A.units + 200 < cLine := by have := h.room.un; omega
theorem Has.hu64 (h : Has X EW k C G T bs) : X.A.units + 64 < cLine := by have := h.room.un; omega
theorem Has.hu65 (h : Has X EW k C G T bs) : X.A.units + 65 < cLine := by have := h.room.un; omega
theorem Has.no (h : Has X EW k C G T bs) {b : Str} (hb : bs.contains b = true := by decide +kernel) : X.mg b = none := h.blt b (by simpa using hb)
theorem takes_none {X : Cx} : Takes X fun cls d _ H => toE X.K EW0 cls d H := LamX.takes0.imp fun _ _ _ _ ⟨_, _, _, _, _, _, z⟩ => z
theorem Has.blk (h : Has X EW k C G T bs) (s : Shared) (H : Hp) (scope : Scope) (ce : Env) (fp : List Addr) : Has (X.blk s H scope ce fp) EW0 k C G T bs := ⟨h.room, h.gd, h.glob, h.call, h.blt, takes_none, h.nul⟩
theorem HasB.blk (h : HasB X EW k C G T bs) (s : Shared) (H : Hp) (scope : Scope) (ce : Env) (fp : List Addr) : HasB (X.blk s H scope ce fp) EW0 k C G T bs := ⟨h.toHas.blk s H scope ce fp, h.room2⟩
end
/-- the context of a def's body -/
abbrev bodyX (P : Program) (w : World) (K : PySem.W.Frag) (mg : Str → Option Value) (base : Heap) (N : List Str) (qual : Str) (st : Stmt) (fa : Addr) (cdv : Value) (A : Around) (outer : List Env) (s : Shared) (H : Hp) (E : XK) : Cx :=
  cxOf (L2.CX P w) P w K mg base N qual (defScope st) fa cdv A outer s H E
theorem takes_body {P : Program} {w : World} {K : PySem.W.Frag} {mg : Str → Option Value} {base : Heap} {N : List Str} {qual : Str} {st : Stmt} {fa : Addr} {cdv : Value} {A : Around} {outer : List Env} {s : Shared} {H : Hp} {E : XK} :
    Takes (bodyX P w K mg base N qual st fa cdv A outer s H E) fun cls d _ H' => toE K (ofE K E) cls d H' :=
  (takes_of (E := E) rfl rfl rfl rfl).imp fun _ _ _ _ ⟨_, _, _, e, _, r, q⟩ => by
    rw [← e]
    exact q _ _ r
/-- a def of the text with its small body: at every call the machine does what the small body says -/
def Tied (P : Program) (w : World) (K : PySem.W.Frag) (mg : Str → Option Value) (base : Heap) (T : Tab) (G : Str → Option D) (bs : List Str) (f : Str) (d : Fn) : Prop :=
  ∃ (fa : Addr) (fd : FuncData) (ps N : List Str) (st : Stmt) (qual : Str), mg f = some (.ref fa) ∧ glA K f = some fa ∧ Fun K f qual st fa fd ∧ Binds K fd ps [] ∧ FnScope N ps (defScope st) ∧ d.pars = ps.length ∧ d.slots = N.length ∧
    ∀ (k : Nat) (C : Calls') (cdv : Value), fd.code = cdv → ∀ (A : Around) (outer : List Env) (s : Shared) (H : Hp) (E : XK), HasB (bodyX P w K mg base N qual st fa cdv A outer s H E) (ofE K E) k C G T bs → ∀ ce : Cfg,
      PSs (bodyX P w K mg base N qual st fa cdv A outer s H E) (defBody st) (tSs K (ofE K E) C G ce d.body)
theorem run_none {T : Tab} {G : Str → Option D} {n : Nat} {f : Str} (e : T f = none) (ds : List D) (h : Hh) : run T G n f ds h = .bad := by
  cases n with
  | zero => rfl
  | succ n =>
    unfold run
    rw [e]
theorem run_bad {T : Tab} {G : Str → Option D} {n : Nat} {f : Str} {d : Fn} (e : T f = some d) (ds : List D) (h : Hh) (hl : ds.length ≠ d.pars) : run T G n f ds h = .bad := by
  cases n with
  | zero => rfl
  | succ n =>
    unfold run
    rw [e]
    show runBody _ G d ds h = _
    unfold runBody
    rw [if_neg hl]
theorem start_env {N ps : List Str} {d : Fn} {K : PySem.W.Frag} {c : Cfg} {ds : List D} {vs : List V} {He : Hp} (hN : d.slots = N.length) (hp : d.pars = ps.length) (hpl : ps.length ≤ N.length) (hl : vs.length = ps.length) (r : RelDs K c ds vs) :
    RelEnv K He c (d.env ds) (L2.start N vs) := by
  have el := RelDs.length r
  have no : ∀ (i : Nat) (l : List D), (d.env ds)[i]? ≠ some (.own l) := fun i l e => by
    unfold Fn.env at e
    by_cases hi : i < ds.length
    · rw [List.getElem?_append_left (by simpa using hi), List.getElem?_map] at e
      cases q : ds[i]? with
      | none => rw [q] at e; cases e
      | some x => rw [q] at e; cases e
    · rw [List.getElem?_append_right (by simpa using hi), List.getElem?_replicate] at e
      split at e <;> cases e
  refine ⟨?_, fun i s e => ?_, fun i j l m a e1 _ _ _ => absurd e1 (no i l)⟩
  · unfold Fn.env L2.start
    simp [hN, hp, hl, el]
  · unfold Fn.env at e
    by_cases hi : i < ds.length
    · rw [List.getElem?_append_left (by simpa using hi), List.getElem?_map] at e
      cases q : ds[i]? with
      | none => rw [q] at e; cases e
      | some x =>
        rw [q] at e
        cases e
        obtain ⟨v, h1, h2⟩ := RelDs.get r q
        refine ⟨some v, ?_, v, rfl, h2⟩
        unfold L2.start
        rw [List.getElem?_append_left (by simpa using (by omega : i < vs.length)), List.getElem?_map, h1]
        rfl
    · have hi2 : ¬ i < (ds.map Slot.val).length := by simpa using hi
      have hlt := (List.getElem?_eq_some_iff.mp e).1
      rw [List.getElem?_append_right (Nat.le_of_not_lt hi2), List.getElem?_replicate] at e
      split at e
      · rename_i hr
        cases e
        refine ⟨none, ?_, True.intro⟩
        unfold L2.start
        rw [List.getElem?_append_right (by simp; omega), List.getElem?_replicate, if_pos]
        simp only [List.length_map] at hr ⊢
        omega
      · cases e
/-- every def of the table keeps its promise, at every level -/
theorem all_defs {P : Program} {w : World} {K : PySem.W.Frag} {mg : Str → Option Value} {base : Heap} {T : Tab} {G : Str → Option D} {bs : List Str} (gl : Glob K mg G) (hb : ∀ b ∈ bs, mg b = none) (tied : ∀ f d, T f = some d → Tied P w K mg base T G bs f d) :
    ∀ (n : Nat) (f : Str) (d : Fn), T f = some d → CallsOk P w K mg base (3 * n) (run T G n) f := by
  intro n
  induction n with
  | zero =>
    intro f d e
    obtain ⟨fa, fd, ps, N, st, qual, h1, h1g, F, h2, S, h3, h4, _⟩ := tied f d e
    refine ⟨fa, fd, ps, h1, h1g, F.kp, h2, ⟨fun vs H Q E z => z.1, fun A outer s H args us vs Q E _ _ _ _ _ z => ?_⟩, fun ds h hl => run_bad e ds h (by rw [h3]; exact hl)⟩
    obtain ⟨_, c, h, ds, _, _, _, p⟩ := z
    exact False.elim p
  | succ n ih =>
    intro f d e
    obtain ⟨fa, fd, ps, N, st, qual, h1, h1g, F, h2, S, h3, h4, body⟩ := tied f d e
    have hpl : ps.length ≤ N.length := by have := congrArg List.length S.pre; rw [List.length_take] at this; omega
    refine ⟨fa, fd, ps, h1, h1g, F.kp, h2, fnG_of (k := 3 * n + 2) F S (fun vs H Q E z => z.1) fun cdv hcv A outer s H vs Q E hr hgd z => ?_, fun ds h hl => run_bad e ds h (by rw [h3]; exact hl)⟩
    obtain ⟨hl, c, h, ds, rfl, wf, r, p⟩ := z
    have hs : HasB (bodyX P w K mg base N qual st fa cdv A outer s c.H E) (ofE K E) (3 * n) (run T G n) G T bs := ⟨⟨hr.mono (by omega), hgd, gl, fun g d' e' => ih g d' e', hb, takes_body, fun f e ds h => run_none e ds h⟩, hr⟩
    refine ⟨_, body (3 * n) (run T G n) cdv hcv A outer s c.H E hs c, ?_⟩
    refine ⟨c, h, d.env ds, rfl, wf, Le.refl c, start_env h4 h3 hpl hl r, ?_⟩
    have el := RelDs.length r
    unfold run at p
    rw [e] at p
    simp only [runBody] at p
    rw [if_pos (by rw [el, hl, h3])] at p
    cases q : execSs (run T G n) G d.body (d.env ds) h with
    | bad => rw [q] at p; exact p
    | ex x h' => rw [q] at p; exact fun c' l w' => p c' l w'
    | ok fl h' =>
      rw [q] at p
      intro c' le' st' wf'
      cases fl with
      | nx env' => exact fun σ' re' => p c' .non le' wf' ⟨show RelD K c' .non .non by unfold RelD; rfl, True.intro⟩
      | bk env' => exact False.elim p
      | ct env' => exact False.elim p
      | rt r' => exact fun v rr fr => p c' v le' wf' ⟨rr, fr⟩
end Mi
/-! MiSrt3: sorted by a key that a def of the text tells, over the layer. -/
namespace Mi
open PySem PySem.Spec PyProof.Rows PySem.W L2
open Srt SrtO
section
variable {X : Cx} {pins : List (Addr × Obj)} {σ : L2.St} {H : Hp} {s : Shared} {vs : List Value} {f : Value} {Jm : List Value → Hp → Prop}
end
end Mi
/-! MiSrt4: sorted by a key, and how many unlike ones, as expressions of the small language. -/
namespace Mi
open PySem PySem.Spec PyProof.Rows L2
variable [Tb]
section
variable {X : Cx}
end
section
variable {X : Cx} {EW : EWish} {k : Nat} {C : Calls'} {G : Str → Option D} {T : Tab} {bs : List Str}
/-! ### sorted by a key -/
/-! ### a list taken apart -/
end
end Mi
/-! MiSrt5: data sorted (no key). -/
namespace Mi
open PySem PySem.SeqAt PySem.Spec PyProof.Rows PySem.W L2
variable [Tb] {X : Cx} {EW : EWish} {C : Calls'} {G : Str → Option D}
/-! ### list.pop(i) -/
end Mi
/-! MiRng3: tuple(range(a, b, c)). -/
namespace Mi
open PySem PySem.SeqAt PySem.Spec PyProof.Rows L2
variable [Tb] {X : Cx} {EW : EWish} {C : Calls'} {G : Str → Option D}
end Mi
/-! MiRz: a refusal is raised. -/
namespace Mi
open PySem PySem.Spec PyProof.Rows L2
variable [Tb]
section
variable {X : Cx} {EW : EWish} {C : Calls'} {G : Str → Option D} {ce : Cfg} {x m : Str} {A : Addr} {j : Nat} {p p1 p2 pos : Pos}
end
end Mi
/-! MiTold: kept exceptions asked; defs as values. -/
namespace Mi
open PySem PySem.Spec PyProof.Rows L2
variable [Tb]
section
variable {X : Cx} {EW : EWish} {C : Calls'} {G : Str → Option D}
def isxR (c : Str) (h1 : Hh) : R → Res R
  | .dat (.sp true k _) => Res.of h1 ((isxF k c).map fun b => .dat (.bl b))
  | _ => .bad
end
end Mi
/-! MiTold2: what told makes of a lambda. -/
namespace Mi
open PySem PySem.Spec PyProof.Rows L2
variable [Tb]
end Mi
/-! MiTold0: a lambda is made: no table but the old ones. -/
namespace Mi
open PySem PySem.Spec PyProof.Rows L2 LamX
section
variable {X : Cx} {pins : List (Addr × Obj)} {σ : L2.St} {H : Hp} {s : Shared}
end
end Mi
/-! MiTold3: a lambda handed over, where nothing is being shown. -/
namespace Mi
open PySem PySem.Spec PyProof.Rows L2 LamX
section
variable {X : Cx} {pins : List (Addr × Obj)} {σ : L2.St} {H : Hp} {s : Shared}
end
section
variable {X : Cx}
end
end Mi
/-! MiTold4: told in the small language. -/
namespace Mi
open PySem PySem.Spec PyProof.Rows L2 LamX
variable [Tb]
section
variable {X : Cx} {EW : EWish} {C : Calls'} {G : Str → Option D}
end
end Mi
/-! MiTold5: told and calls by a name, as expressions of the small language. -/
namespace Mi
open PySem PySem.Spec PyProof.Rows L2 LamX
variable [Tb]
section
variable {X : Cx} {EW : EWish} {k : Nat} {C : Calls'} {G : Str → Option D} {T : Tab} {bs : List Str}
end
end Mi
/-! MiEx: what is known of the program's refusals, in one bundle. -/
namespace Mi
open PySem PySem.Spec PyProof.Rows L2 LamX
variable [Tb]
omit [Tb] in
theorem glA_of {K : PySem.W.Frag} {x : Str} {C : Addr} (e : PySem.W.nsIn K mainGlobals x = some (some (.ref C))) : glA K x = some C := by
  unfold glA
  rw [e]
section
variable {X : Cx} {EW : EWish} {k : Nat} {C : Calls'} {G : Str → Option D} {T : Tab} {bs cl : List Str} {ce : Cfg}
end
end Mi
/-! Mi9: the law's own call, the end of a row; tables of code objects. -/
namespace Mi
open PySem PySem.Spec PyProof.Rows L2
variable [Tb]

/-- the abstract heap at the law's entry: the script, if it is no object of the module, and the empty tables -/
def scriptH (a : Addr) (o : Obj) (ns : List Int) (yes : Bool) (ts : List Addr) : Hp := fun b => if b = a ∧ yes = true then some (.frz o (.lst (ns.map V.int))) else if b ∈ ts then some (.tbl #[]) else none
theorem scriptH_at {a : Addr} {o : Obj} {ns : List Int} {ts : List Addr} : scriptH a o ns true ts a = some (.frz o (.lst (ns.map V.int))) := if_pos ⟨rfl, rfl⟩
theorem scriptH_some {a b : Addr} {o : Obj} {ns : List Int} {yes : Bool} {ts : List Addr} {u : HO} (h : scriptH a o ns yes ts b = some u) : (b = a ∧ yes = true ∧ u = .frz o (.lst (ns.map V.int))) ∨ (b ∈ ts ∧ u = .tbl #[]) := by
  unfold scriptH at h
  split at h
  · rename_i z
    cases h
    exact .inl ⟨z.1, z.2, rfl⟩
  · split at h
    · rename_i z
      cases h
      exact .inr ⟨z, rfl⟩
    · cases h
theorem scriptH_tab {a b : Addr} {o : Obj} {ns : List Int} {yes : Bool} {ts : List Addr} (n : b ≠ a) (h : b ∈ ts) : scriptH a o ns yes ts b = some (.tbl #[]) := by
  unfold scriptH
  rw [if_neg (fun z => n z.1), if_pos h]
abbrev emptyO : Obj := { cls := .none, data := .fields #[] }
theorem lawG {P : Program} {w : World} {K : PySem.W.Frag} {mg mb : Str → Option Value} {k : Nat} {fa a : Addr} {sp : Sp} {s1 : Shared} {vs : List Value} {ns : List Int} {cs : List (Addr × Addr)}
    (KX : K.In s1.heap) (gns : s1.heap.Ns mainGlobals mg) (bns : s1.heap.Ns builtinsNs mb) (bb : ∀ x : Str, x ≠ "__name__" → mb x = bootBuiltins x) (lim : s1.heap.NoLimit) (gen : s1.gens = #[])
    (bmn : ∃ (bm : Addr) (ob : Obj), mg "__builtins__" = some (.ref bm) ∧ bm ≠ builtinsNs ∧ s1.heap.get? bm = some ob ∧ ob.cls = .type "module" ∧ ob.dict = some builtinsNs ∧ ob.data = .plain)
    (hT : ∀ p ∈ cs, s1.heap.get? p.2 = some emptyO) (nT : ∀ p ∈ cs, K.lookup p.2 = none) (hC : ∀ p ∈ cs, PySem.W.CodeHd s1.heap p.1 p.2)
    (ha : s1.heap.get? a = some { cls := .type "list", data := .seq vs.toArray }) (hi : IntsAre vs ns) (hl : ns.length ≤ sizeLine) (hr : Room k callerA)
    (F : ∀ base : Heap, K.In base → base.Ns mainGlobals mg → (∀ p ∈ cs, LamX.TabB base mg p.1 p.2) → ∃ (fd : FuncData) (x : Str), Binds K fd [x] [] ∧ FnG P w K mg base (L2.CX P w) k fa fd [x] sp)
    (hsp : ∀ H : Hp, ArgL K H a (ns.map V.int) → (∀ p ∈ cs, H p.2 = some (.tbl #[])) → (∀ b ps, H b = some (.tbl ps) → b ∈ cs.map (·.2)) → sp [.ref a] H (fun v _ => v = .bl true) fun _ _ _ => False) :
    codeAny (model P w) callerA (.call (.ref fa) ⟨[.ref a], []⟩) (fun r s' => r = .ok (.ret (.bool true)) ∧ OldK s1.heap s'.heap ∧ s'.os = s1.os ∧ AllBare s'.gens) s1 := by
  have rv := vals_ints hi
  obtain ⟨yes, hy⟩ : ∃ yes : Bool, (yes = true ↔ K.lookup a = none) := by
    cases h : K.lookup a with
    | none => exact ⟨true, by simp⟩
    | some o => exact ⟨false, by simp⟩
  let ob : Obj := { cls := .type "list", data := .seq vs.toArray }
  let ts := cs.map (·.2)
  let H := scriptH a ob ns yes ts
  have tab : ∀ b, b ∈ ts → s1.heap.get? b = some emptyO ∧ K.lookup b = none := fun b hb => by
    obtain ⟨p, hp, e⟩ := List.mem_map.mp hb
    subst e
    exact ⟨hT p hp, nT p hp⟩
  have na : ∀ b, b ∈ ts → b ≠ a := fun b hb z => by
    have q := (tab b hb).1
    rw [z, ha] at q
    cases q
  have hok : HOk P w H s1.heap := fun b u e => by
    rcases scriptH_some e with ⟨rfl, _, rfl⟩ | ⟨hb, rfl⟩
    · exact ⟨ha, by rw [List.length_map]; exact hl, vs, _, rv, ha⟩
    · exact (tab b hb).1
  have free : ∀ {b : Addr} {o : Obj}, s1.heap.get? b = some o → (∀ z n, o.data ≠ .seq z n) → o.data ≠ .fields #[] → H b = none := fun {b o} e d1 d2 => by
    cases q : H b with
    | none => rfl
    | some u =>
      rcases scriptH_some q with ⟨rfl, _, _⟩ | ⟨hb, _⟩
      · rw [ha] at e
        cases e
        exact absurd rfl (d1 _ _)
      · rw [(tab b hb).1] at e
        cases e
        exact absurd rfl d2
  have freeD : ∀ {b : Addr} {o : Obj} {es : Array DictEntry} {ep : Nat}, s1.heap.get? b = some o → o.data = .dict es ep → H b = none := fun {b o es ep} e d => free e (fun _ _ z => by rw [d] at z; cases z) fun z => by rw [d] at z; cases z
  have nsIn : ∀ {b : Addr} {m : Str → Option Value}, s1.heap.Ns b m → (hidT s1.heap H).Ns b m := fun {b m} ⟨o, es, ep, e, d, r⟩ => ⟨o, es, ep, hidT_get e (freeD e d), d, r⟩
  have Kb : K.In (hidT s1.heap H) := fun b o e => hidT_get (KX b o e) (by
    cases q : H b with
    | none => rfl
    | some u =>
      rcases scriptH_some q with ⟨rfl, z, _⟩ | ⟨hb, _⟩
      · rw [hy.mp z] at e
        cases e
      · rw [(tab b hb).2] at e
        cases e)
  have lim' : (hidT s1.heap H).NoLimit := by
    obtain ⟨mc, h1, h2⟩ := lim
    exact ⟨mc, nsIn h1, h2⟩
  have M : Mod K mg (hidT s1.heap H) := ⟨Kb, nsIn gns, ⟨mb, nsIn bns, bb⟩, lim'⟩
  have none_in : ∀ b, b ∉ frs ([] : List Env) := fun b z => by
    have z' : b ∈ ([] : List Addr) := z
    cases z'
  have e0 : Env0 P w K mg (hidT s1.heap H) callerA [] s1 H := ⟨rfl, M, fun b o e => of_hidT e, Nat.le_of_eq (hidT_size _ _), trivial, fun b z => absurd z (none_in b), hok, .of_eq gen⟩
  have arg : ArgL K H a (ns.map V.int) := by
    cases h : K.lookup a with
    | none =>
      have y : yes = true := hy.mpr h
      refine .inl ⟨ob, ?_⟩
      show scriptH a ob ns yes ts a = _
      rw [y]; exact scriptH_at
    | some o =>
      have e := KX a o h
      rw [ha] at e
      cases e
      exact .inr ⟨_, vs.toArray, _, h, rfl, rfl, rfl, by rw [List.size_toArray, hi.length]; exact hl, by simpa using rv⟩
  have memT : ∀ p ∈ cs, p.2 ∈ ts := fun p hp => List.mem_map.mpr ⟨p, hp, rfl⟩
  have TB : ∀ p ∈ cs, LamX.TabB (hidT s1.heap H) mg p.1 p.2 := fun p hp => by
    have eT := hT p hp
    have nG : mainGlobals ≠ p.2 := fun z => by
      obtain ⟨o, es, ep, e, d, _⟩ := gns
      rw [z, eT] at e
      cases e
      cases d
    refine ⟨?_, ?_, nG⟩
    · obtain ⟨o, us, file, tf, fl, tg, inF, tx, tt, e1, r1, r2, r3, r4⟩ := hC p hp
      refine ⟨o, us, file, tf, fl, tg, inF, tx, tt, hidT_get e1 (free e1 (fun _ _ z => by rw [r2] at z; cases z) fun z => ?_), r1, r2, r3, r4⟩
      rw [r2] at z
      cases z
      simp at r3
    · obtain ⟨bm, ob', b1, b2, b3, b4, b5, b6⟩ := bmn
      refine ⟨bm, ob', b1, b2, fun z => ?_, fun z => ?_, hidT_get b3 (free b3 (fun _ _ z => by rw [b6] at z; cases z) fun z => by rw [b6] at z; cases z), b4, b5, b6⟩
      · obtain ⟨o, es, ep, e, d, _⟩ := gns
        rw [z, e] at b3
        cases b3
        rw [d] at b6
        cases b6
      · rw [z, eT] at b3
        cases b3
        cases b6
  obtain ⟨fd, x, bt, FG⟩ := F _ Kb (nsIn gns) TB
  refine codeAny_mono (FG.run callerA [] s1 H ⟨[.ref a], []⟩ [.ref a] [.ref a] _ _ hr rfl e0 (bt s1 [.ref a] KX rfl) (.cons rfl .nil) (hsp H arg (fun p hp => scriptH_tab (na _ (memT p hp)) (memT p hp)) fun b ps e => ?_)) fun res s' z => ?_
  · rcases scriptH_some e with ⟨_, _, z⟩ | ⟨hb, _⟩
    · cases z
    · exact hb
  match res, z with
  | .error e, z => obtain ⟨_, _, _, _, _, _, _, _, _, _, _, _, z⟩ := z; exact z.elim
  | .ok .next, z => exact z.elim
  | .ok .brk, z => exact z.elim
  | .ok .cont, z => exact z.elim
  | .ok (.ret u), z =>
    obtain ⟨v, H', os, bare, un, hok', r', q⟩ := z
    have q : v = .bl true := q
    subst q
    have r' : u = Value.bool true := r'
    subst r'
    have same : ∀ b o, b ∉ ts → s1.heap.get? b = some o → s'.heap.get? b = some o := fun b o nb e => by
      cases q : H b with
      | none => exact un.keep b o e q (none_in b) (by simp)
      | some u =>
        rcases scriptH_some q with ⟨rfl, _, rfl⟩ | ⟨hb, _⟩
        · obtain ⟨g1, _⟩ := hok' _ _ (un.frzs _ _ _ q)
          rw [ha] at e
          cases e
          exact g1
        · exact absurd hb nb
    have more : ∀ b, b ∈ ts → ∃ xs : Array Value, s'.heap.get? b = some { cls := .none, data := .fields (#[] ++ xs) } := fun b hb => by
      obtain ⟨xs, z⟩ := un.tbls b #[] (scriptH_tab (na b hb) hb)
      exact ⟨xs, hok' b _ z⟩
    refine ⟨rfl, ⟨fun b o e => ?_, fun b o e => ?_⟩, os, bare⟩
    · by_cases hb : b ∈ ts
      · obtain ⟨xs, z⟩ := more b hb
        obtain ⟨p, hp, ep⟩ := List.mem_map.mp hb
        rw [(tab b hb).1] at e
        cases e
        subst ep
        exact .inr (.inl ⟨((hC p hp).tab (hT p hp)).isCodeTable, rfl, #[], xs, rfl, z⟩)
      · exact .inl (same b o hb e)
    · by_cases hb : b ∈ ts
      · obtain ⟨xs, z⟩ := more b hb
        exact ⟨_, z⟩
      · exact ⟨o, same b o hb e⟩
/-- the script as data -/
def scriptD (ns : List Int) : D := .arg (ns.map .int)
theorem rel_ints {K : PySem.W.Frag} {c : Cfg} : ∀ ns : List Int, RelDs K c (ns.map .int) (ns.map V.int)
  | [] => RelDs.nil
  | n :: ns => RelDs.cons (by unfold RelD; rfl) (rel_ints ns)
theorem no_wf {K : PySem.W.Frag} {H : Hp} {ts : List Addr} (hT : (Tb.T K).map (·.1) = ts) (h0 : ∀ b ∈ ts, H b = some (.tbl #[])) (hn : ∀ b ps, H b = some (.tbl ps) → b ∈ ts) : WF K ⟨H, fun _ => 0, fun _ => False, 0⟩ [] :=
  ⟨⟨fun p hp => LamX.TabS.nil (h0 _ (by rw [← hT]; exact List.mem_map_of_mem hp)), fun P ps e => by
    have z := hn P ps e
    rw [← hT] at z
    obtain ⟨p, hp, e⟩ := List.mem_map.mp z
    exact ⟨p.2, by rw [← e]; exact hp⟩⟩, rfl, fun k o e => by simp at e, fun j k h _ _ => absurd h (Nat.not_lt_zero _), fun k h _ => absurd h (Nat.not_lt_zero _), fun a h => h.elim⟩
/-- a def's code object, a code object's table, by the written part -/
def fnCode (K : PySem.W.Frag) (x : Str) : Addr := match glA K x with
  | some f => match K.lookup f with
    | some ⟨_, _, .func fd, _⟩ => match fd.code with
      | .ref c => c
      | _ => 0
    | _ => 0
  | none => 0
def codeTab (K : PySem.W.Frag) (c : Addr) : Addr := match K.lookup c with
  | some ⟨_, _, .fields vs, _⟩ => match (vs[11]? : Option Value) with
    | some (.ref P) => P
    | _ => 0
  | _ => 0
/-- the tables of the defs xs -/
def tabsOf (xs : List Str) (K : PySem.W.Frag) : List (Addr × Str) := xs.map fun x => (codeTab K (fnCode K x), (x ++ ".<locals>.") ++ "<lambda>")
def codesOf (xs : List Str) (K : PySem.W.Frag) : List (Addr × Addr) := xs.map fun x => (fnCode K x, codeTab K (fnCode K x))
/-- the tables stand apart, they are not written, their code objects are -/
def tabOk (K : PySem.W.Frag) (ts : List Addr) (xs : List Str) : Bool := (codesOf xs K).all fun p => PySem.W.codeHdIn K p.1 p.2 && (K.lookup p.2).isNone && ts.contains p.2
/-- THE END: every def tied, and the evaluator says True of each script -/
theorem walkG {l : PySem.W.OpenLaw} {n k : Nat} {q : Program} {loose : List Str} {XP : (Str → Option Value) → Heap → Prop} {YP : World → Heap → Prop} {d : DefRec} {K : Params → PySem.W.Frag} {T : Tab} {G : Str → Option D} {bs : List Str} {ts : List Addr} {xs : List Str}
    (hn : l.most = some n) (hn2 : n ≤ sizeLine) (hdf : d.params.defaults = []) (hr : Room (3 * k) callerA) (hY : ∀ (w : World) (h : Heap), YP w h → (K w.params).In h) (hts : ∀ (w : World) (h : Heap), YP w h → ∀ P ∈ ts, h.get? P = some emptyO)
    (hTb : ∀ w : World, Tb.T (K w.params) = tabsOf xs (K w.params)) (hok : ∀ w : World, tabOk (K w.params) ts xs = true)
    (F : ∀ (w : World) (mg : Str → Option Value) (h : Heap), (K w.params).In h → h.Ns mainGlobals mg → Glob (K w.params) mg G ∧ (∀ b ∈ bs, mg b = none) ∧ ∀ f e, T f = some e → ∀ base : Heap, (∀ p ∈ codesOf xs (K w.params), LamX.TabB base mg p.1 p.2) → Tied l.prog w (K w.params) mg base T G bs f e)
    {e : Fn} (hT : T d.name = some e) (run1 : ∀ ns : List Int, ns.length ≤ n → ∃ h', run T G k d.name [scriptD ns] [] = .ok (.dat (.bl true)) h') :
    PySem.W.WalkO q loose XP YP l.row.toRowW d [] (fun f vs => PySem.call f vs) := by
  refine Att.attach_call hn hdf fun w s0 s1 mg mb fa o pm cd doc a vs ns Gr Y ho hd hcd hmg hobj hints hlen hg => ?_
  have KX := hY w _ Y
  obtain ⟨gl, hb, tied⟩ := F w mg _ KX Gr.T.g
  obtain ⟨h', e1⟩ := run1 ns hlen
  have tk : ∀ p ∈ codesOf xs (K w.params), PySem.W.codeHdIn (K w.params) p.1 p.2 = true ∧ (K w.params).lookup p.2 = none ∧ p.2 ∈ ts := fun p hp => by
    have z := List.all_eq_true.mp (hok w) p hp
    simp only [Bool.and_eq_true, Option.isNone_iff_eq_none, List.contains_iff_mem] at z
    exact ⟨z.1.1, z.1.2, z.2⟩
  have em : (Tb.T (K w.params)).map (·.1) = (codesOf xs (K w.params)).map (·.2) := by
    rw [hTb w]
    unfold tabsOf codesOf
    rw [List.map_map, List.map_map]
    rfl
  refine lawG (cs := codesOf xs (K w.params)) KX Gr.T.g Gr.T.b Gr.T.builtins Gr.T.nolimit hg Gr.T.bmain (fun p hp => hts w _ Y _ (tk p hp).2.2) (fun p hp => (tk p hp).2.1) (fun p hp => PySem.W.codeHd_of_K KX (tk p hp).1) hobj hints (Nat.le_trans hlen hn2) hr (k := 3 * k) (sp := spM (K w.params) (run T G k) d.name 1) (fun base kb gb TB => ?_) fun H arg h0 nt => ?_
  · obtain ⟨fa2, fd2, ps2, g1, _, g2, g3, g4, g5⟩ := all_defs gl hb (fun f e hf => tied f e hf base TB) k d.name e hT
    rw [hmg] at g1
    cases g1
    have l1 : ps2.length = 1 := Classical.byContradiction fun z => by
      rw [g5 [scriptD ns] [] (fun z' => z z'.symm)] at e1
      cases e1
    obtain ⟨x, rfl⟩ := List.length_eq_one_iff.mp l1
    exact ⟨fd2, x, g3, g4⟩
  · refine ⟨rfl, ⟨H, fun _ => 0, fun _ => False, 0⟩, [], [scriptD ns], rfl, no_wf em (fun b hb => ?_) nt, RelDs.one ?_, ?_⟩
    · obtain ⟨p, hp, e⟩ := List.mem_map.mp hb
      rw [← e]
      exact h0 p hp
    · unfold scriptD RelD
      exact ⟨a, _, rfl, arg, rel_ints ns⟩
    · rw [e1]
      intro c' v _ _ r
      have q : RelD (K w.params) c' (.bl true) v := r.1
      unfold RelD at q
      exact q
end Mi
/-! Mi10: what the top has written, by lists. -/
namespace Mi
open PySem PySem.Spec PyProof.Rows L2
variable [Tb]

inductive GlobL (K : PySem.W.Frag) (mg : Str → Option Value) : List (Str × D) → Prop where
  | nil : GlobL K mg []
  | cons {x : Str} {d : D} {l : List (Str × D)} (h : ∃ v u, mg x = some u ∧ RelV v u ∧ ∀ c, RelD K c d v) (t : GlobL K mg l) : GlobL K mg ((x, d) :: l)
theorem lookup_cons {α : Type} {x y : Str} {d : α} {l : List (Str × α)} {e : α} (h : ((x, d) :: l).lookup y = some e) : (y = x ∧ e = d) ∨ l.lookup y = some e := by
  rw [List.lookup_cons] at h
  by_cases q : y = x
  · subst q
    rw [beq_self_eq_true] at h
    exact .inl ⟨rfl, (Option.some.inj h).symm⟩
  · have : (y == x) = false := by simpa using q
    rw [this] at h
    exact .inr h
theorem glob_all {K : PySem.W.Frag} {mg : Str → Option Value} {l : List (Str × D)} (h : GlobL K mg l) : Glob K mg fun x => l.lookup x := by
  intro x d e
  induction h with
  | nil => cases e
  | cons h t ih =>
    rcases lookup_cons e with ⟨rfl, rfl⟩ | e
    · exact h
    · exact ih e
inductive NoneL (mg : Str → Option Value) : List Str → Prop where
  | nil : NoneL mg []
  | cons {x : Str} {l : List Str} (h : mg x = none) (t : NoneL mg l) : NoneL mg (x :: l)
theorem none_all {mg : Str → Option Value} {l : List Str} (h : NoneL mg l) : ∀ b ∈ l, mg b = none := by
  induction h with
  | nil => intro b hb; cases hb
  | cons h t ih =>
    intro b hb
    rcases List.mem_cons.mp hb with rfl | hb
    · exact h
    · exact ih b hb
inductive TiedL (P : Program) (w : World) (K : PySem.W.Frag) (mg : Str → Option Value) (base : Heap) (T : Tab) (G : Str → Option D) (bs : List Str) : List (Str × Fn) → Prop where
  | nil : TiedL P w K mg base T G bs []
  | cons {x : Str} {d : Fn} {l : List (Str × Fn)} (h : Tied P w K mg base T G bs x d) (t : TiedL P w K mg base T G bs l) : TiedL P w K mg base T G bs ((x, d) :: l)
theorem tied_all {P : Program} {w : World} {K : PySem.W.Frag} {mg : Str → Option Value} {base : Heap} {T : Tab} {G : Str → Option D} {bs : List Str} {l : List (Str × Fn)} (h : TiedL P w K mg base T G bs l) :
    ∀ f e, l.lookup f = some e → Tied P w K mg base T G bs f e := by
  intro f e q
  induction h with
  | nil => cases q
  | cons h t ih =>
    rcases lookup_cons q with ⟨rfl, rfl⟩ | q
    · exact h
    · exact ih q
/-- a value of the top is this plain constant -/
def conV : Value → D → Bool
  | .none, .non => true
  | .bool a, .bl b => a == b
  | .int i _, .int j => i == j
  | .str s _, .str t => s == t
  | _, _ => false
theorem conV_rel {K : PySem.W.Frag} : ∀ {u : Value} {d : D}, conV u d = true → ∃ v, RelV v u ∧ ∀ c, RelD K c d v := by
  intro u d h
  unfold conV at h
  split at h
  · exact ⟨.non, rfl, fun c => by unfold RelD; rfl⟩
  · rename_i a b
    obtain rfl : a = b := by simpa using h
    exact ⟨.bl a, rfl, fun c => by unfold RelD; rfl⟩
  · rename_i a _ b
    obtain rfl : a = b := by simpa using h
    exact ⟨.int a, ⟨_, rfl⟩, fun c => by unfold RelD; rfl⟩
  · rename_i a _ b
    obtain rfl : a = b := by simpa using h
    exact ⟨.str a, ⟨_, rfl⟩, fun c => by unfold RelD; rfl⟩
  · cases h
def conVs : List Value → List D → Bool
  | [], [] => true
  | u :: us, d :: ds => conV u d && conVs us ds
  | _, _ => false
theorem conVs_rel {K : PySem.W.Frag} : ∀ {us : List Value} {ds : List D}, conVs us ds = true → ∃ vs, Vals vs us ∧ ∀ c, RelDs K c ds vs
  | [], [], _ => ⟨[], .nil, fun c => by unfold RelDs; rfl⟩
  | u :: us, d :: ds, h => by
    unfold conVs at h
    simp only [Bool.and_eq_true] at h
    obtain ⟨v, h1, h2⟩ := conV_rel (K := K) h.1
    obtain ⟨vs, h3, h4⟩ := conVs_rel (K := K) h.2
    exact ⟨v :: vs, .cons h1 h3, fun c => RelDs.cons (h2 c) (h4 c)⟩
  | [], _ :: _, h => by unfold conVs at h; cases h
  | _ :: _, [], h => by unfold conVs at h; cases h
def conOk : Obj → D → Bool
  | ⟨.type n, _, .seq its _, _⟩, .tup l => (n == "tuple") && decide (its.size ≤ sizeLine) && conVs its.toList l
  | _, _ => false
theorem glob_val {K : PySem.W.Frag} {mg : Str → Option Value} {x : Str} {u : Value} {d : D} (h : mg x = some u) (k : conV u d = true) : ∃ v u, mg x = some u ∧ RelV v u ∧ ∀ c, RelD K c d v := by
  obtain ⟨v, h1, h2⟩ := conV_rel (K := K) k
  exact ⟨v, u, h, h1, h2⟩
theorem glob_tup {K : PySem.W.Frag} {mg : Str → Option Value} {x : Str} {a : Addr} {o : Obj} {d : D} (h : mg x = some (.ref a)) (l : K.lookup a = some o) (k : conOk o d = true) : ∃ v u, mg x = some u ∧ RelV v u ∧ ∀ c, RelD K c d v := by
  unfold conOk at k
  split at k
  · rename_i n od its m sl ds
    simp only [Bool.and_eq_true, decide_eq_true_eq, beq_iff_eq] at k
    obtain ⟨⟨rfl, k2⟩, k3⟩ := k
    obtain ⟨vs, h1, h2⟩ := conVs_rel (K := K) k3
    refine ⟨.ref a, .ref a, h, rfl, fun c => ?_⟩
    unfold RelD
    exact ⟨a, vs, rfl, .inr ⟨_, its, m, l, rfl, rfl, k2, h1⟩, h2 c⟩
  · cases k
/-! ### tables of the defs with lambdas -/
end Mi
/-! MiGd: dicts written at the top of the text: d[x], x in d. -/
namespace Mi
open PySem PySem.Spec PyProof.Rows L2
def dctKv : List DictEntry → List (Str × D) → Bool
  | [], [] => true
  | e :: es, (x, d) :: r => (match e.key with | .str s _ => s == x | _ => false) && conV e.val d && dctKv es r
  | _, _ => false
/-- the name x stands for a dict written so -/
def GDct (K : PySem.W.Frag) (w : World) (mg : Str → Option Value) (x : Str) (kvs : List (Str × D)) : Prop :=
  ∃ p es n, mg x = some (.ref p) ∧ K.lookup p = some ⟨.type "dict", none, .dict es n, #[]⟩ ∧ PySem.W.KeysLit w.params es.toList ∧ (p == sysModules) = false ∧ dctKv es.toList kvs = true
theorem gd_find : ∀ {es : List DictEntry} {kvs : List (Str × D)} (e : dctKv es kvs = true) (z : Str),
    (match es.find? (·.key.isStr z) with
    | some e => ∃ d, kvs.lookup z = some d ∧ conV e.val d = true
    | none => kvs.lookup z = none) ∧ es.any (·.refKey) = false
  | [], [], _, z => ⟨rfl, rfl⟩
  | [], _ :: _, e, _ => by simp [dctKv] at e
  | _ :: _, [], e, _ => by simp [dctKv] at e
  | e :: es, (x, d) :: r, h, z => by
    simp only [dctKv, Bool.and_eq_true] at h
    obtain ⟨⟨h1, h2⟩, h3⟩ := h
    obtain ⟨i1, i2⟩ := gd_find h3 z
    cases q : e.key with
    | str s t =>
      rw [q] at h1
      have hx : s = x := by simpa using h1
      subst hx
      refine ⟨?_, ?_⟩
      · have ei : e.key.isStr z = (s == z) := by rw [q]; rfl
        by_cases c : s = z
        · subst c
          rw [List.find?_cons_of_pos (by rw [ei]; simp)]
          exact ⟨d, by simp [List.lookup], h2⟩
        · rw [List.find?_cons_of_neg (by rw [ei]; simpa using c)]
          have cz : (z == s) = false := by simpa using Ne.symm c
          simpa only [List.lookup, cz] using i1
      · rw [List.any_cons, i2]
        have : e.refKey = false := by unfold DictEntry.refKey; rw [q]
        rw [this]; rfl
    | _ => rw [q] at h1; cases h1
theorem gd_in {K : PySem.W.Frag} {p : Addr} {es : Array DictEntry} {n : Nat} {kvs : List (Str × D)} (hl : K.lookup p = some ⟨.type "dict", none, .dict es n, #[]⟩) (e : dctKv es.toList kvs = true) (z : Str) :
    (∃ u d, PySem.W.nsIn K p z = some (some u) ∧ kvs.lookup z = some d ∧ conV u d = true) ∨ (PySem.W.nsIn K p z = some none ∧ kvs.lookup z = none) := by
  obtain ⟨h1, h2⟩ := gd_find e z
  unfold PySem.W.nsIn
  rw [hl]
  dsimp only
  cases q : es.toList.find? (·.key.isStr z) with
  | some y =>
    rw [q] at h1
    obtain ⟨d, a, b⟩ := h1
    exact .inl ⟨_, d, rfl, a, b⟩
  | none =>
    rw [q] at h1
    simp only [h2]
    exact .inr ⟨rfl, h1⟩
/-- x in such a dict -/
def rInG (K : PySem.W.Frag) (w : World) : R2 := fun x y H Q => ∃ z p es n r, x = .str z ∧ y = .ref p ∧ K.lookup p = some ⟨.type "dict", none, .dict es n, #[]⟩ ∧ PySem.W.KeysLit w.params es.toList ∧ (p == sysModules) = false ∧ PySem.W.nsIn K p z = some r ∧ Q (.bl r.isSome) H
variable [Tb] {X : Cx} {EW : EWish} {C : Calls'} {G : Str → Option D}
omit [Tb] in
theorem op_inG : OpR X (compareOp .In) (rInG X.K X.w) := by
  intro pins s σ H x y v u Q I rx ry h
  obtain ⟨z, p, es, n, r, rfl, rfl, hl, hk, low, e, q⟩ := h
  obtain ⟨t, rfl⟩ := rx
  obtain rfl : u = Value.ref p := ry
  have hm := PySem.W.mapOf_K (prog := X.prog) (w := X.w) I.kIn hl hk
  refine wpAny_in_of (strKind_is X.prog X.w z t) low hm ?_
  rw [PySem.W.find_K hl e]
  exact ⟨.bl _, H, I.tok _, rfl, q⟩
theorem sim_gget {x : Str} {kvs : List (Str × D)} (g : GDct X.K X.w X.mg x kvs) {b : Expr} {mb : E} {p pos : Pos} (hb : PE X b (tE X.K EW C G mb)) (hg : Gl X x := by rfl) (hd : (x == ("__debug__" : Str)) = false := by decide) (hs : PlainIx b := by exact fun _ _ => rfl) :
    PE X (.Subscript (.Name x p) b pos) (tE X.K EW C G (.gget x kvs mb)) := by
  obtain ⟨a, es, n, hm, hl, hk, low, e⟩ := g
  refine (pe_ix ix_kdict (pe_glob hg hm (show RelV (.ref a) (.ref a) from rfl) hd) hb hs).imp fun σ H Q w => ?_
  obtain ⟨He, c, h, env, rfl, wf, re, p⟩ := w
  unfold evalE at p
  refine ⟨He, c, h, env, rfl, wf, re, p.bind fun y h1 c1 u le1 wf1 r1 p1 => ?_⟩
  have p1 := PostE.lift le1 p1
  cases y with
  | dat d =>
    cases d with
    | str z =>
      have r2 : RelD X.K c1 (.str z) u := r1.1
      unfold RelD at r2
      subst r2
      rcases gd_in hl e z with ⟨u, d, q1, q2, q3⟩ | ⟨q1, q2⟩
      · obtain ⟨v, rv, rd⟩ := conV_rel (K := X.K) q3
        refine ⟨a, z, v, rfl, rfl, ⟨es, n, u, hl, hk, q1, rv⟩, ?_⟩
        have p2 : PostE X.K EW c1 Q (.ok (.dat d) h1) := by
          have : ggetF kvs (.dat (.str z)) = some d := q2
          rw [this] at p1; exact p1
        exact PostE.here wf1 p2 (rd c1)
      · have : ggetF kvs (.dat (.str z)) = none := q2
        rw [this] at p1
        exact False.elim p1
    | _ => exact False.elim p1
  | _ => exact False.elim p1
theorem gin_red {x : Str} {kvs : List (Str × D)} {mb : E} {a : Addr} {es : Array DictEntry} {n : Nat} (hl : X.K.lookup a = some ⟨.type "dict", none, .dict es n, #[]⟩) (hk : PySem.W.KeysLit X.w.params es.toList) (low : (a == sysModules) = false) (e : dctKv es.toList kvs = true) :
    ∀ σ H Q, tE X.K EW C G (.gin x kvs mb) σ H Q → tOp (rInG X.K X.w) (tE X.K EW C G mb) (tC (.ref a)) σ H Q := fun σ H Q w => by
  obtain ⟨He, c, h, env, rfl, wf, re, p⟩ := w
  unfold evalE at p
  refine ⟨He, c, h, env, rfl, wf, re, p.bind fun y h1 c1 u le1 wf1 r1 p1 => ?_⟩
  have p1 := PostE.lift le1 p1
  cases y with
  | dat d =>
    cases d with
    | str z =>
      have r2 : RelD X.K c1 (.str z) u := r1.1
      unfold RelD at r2
      subst r2
      have p2 : PostE X.K EW c1 Q (.ok (.dat (.bl (kvs.lookup z).isSome)) h1) := p1
      rcases gd_in hl e z with ⟨u, d, q1, q2, q3⟩ | ⟨q1, q2⟩
      · refine ⟨z, a, es, n, some u, rfl, rfl, hl, hk, low, q1, ?_⟩
        rw [q2] at p2
        exact PostE.here wf1 p2 relBl
      · refine ⟨z, a, es, n, none, rfl, rfl, hl, hk, low, q1, ?_⟩
        rw [q2] at p2
        exact PostE.here wf1 p2 relBl
    | _ => exact False.elim p1
  | _ => exact False.elim p1
theorem tst_gin {x : Str} {kvs : List (Str × D)} (g : GDct X.K X.w X.mg x kvs) {b : Expr} {mb : E} {p pos : Pos} (hb : PE X b (tE X.K EW C G mb)) (hg : Gl X x := by rfl) (hd : (x == ("__debug__" : Str)) = false := by decide) (hm2 : behindInMarks .In (.Name x p) = false := by first | exact nomark _ | rfl) :
    PT X (.Compare b [.In] [.Name x p] pos) (tT X.K EW C G (.gin x kvs mb)) := by
  obtain ⟨a, es, n, hm, hl, hk, low, e⟩ := g
  exact (pt_cmpR op_inG hb (pe_glob hg hm (show RelV (.ref a) (.ref a) from rfl) hd) hm2).imp fun σ H Q w => gin_red hl hk low e σ H _ w
/-! ### a choice as a test -/
omit [Tb] in
theorem pt_ifE {d a b : Expr} {td ta tb : TT} {pos : Pos} (hd : PT X d td) (ha : PT X a ta) (hb : PT X b tb) : PT X (.IfExp d a b pos) (fun σ H Q => td σ H fun k H1 => if k = true then ta σ H1 Q else tb σ H1 Q) := by
  refine ⟨fun pins s σ H Q I h => ?_⟩
  show wpAny _ _ (PySem.isTrue (.IfExp d a b pos) X.env (eval (.IfExp d a b pos) X.env)) _ _ _
  rw [PySem.isTrue]
  refine wpAny_bind (thn (hd.run pins s σ H _ I h) fun k s1 ⟨H1, I1, q1⟩ => ?_)
  cases k with
  | true => exact ha.run pins s1 σ H1 Q I1 q1
  | false => exact hb.run pins s1 σ H1 Q I1 q1
theorem tst_ite {d a b : Expr} {md ma mb : E} {pos : Pos} (hd : PT X d (tT X.K EW C G md)) (ha : PT X a (tT X.K EW C G ma)) (hb : PT X b (tT X.K EW C G mb)) : PT X (.IfExp d a b pos) (tT X.K EW C G (.ite md ma mb)) :=
  (pt_ifE hd ha hb).imp fun σ H Q w => ite_red σ H _ w
end Mi
/-! Mi11: reckoning with the evaluator. -/
namespace Mi
open PySem PySem.Spec PyProof.Rows L2

/-- it ends well, so that Q, or with a refusal, so that X -/
def evX {α : Type} (X : Exc → Hh → Prop) (r : Res α) (Q : α → Hh → Prop) : Prop := match r with
  | .ok a h => Q a h
  | .ex x h => X x h
  | .bad => False
abbrev noX : Exc → Hh → Prop := fun _ _ => False
def contFX (X : Exc → Hh → Prop) (Q : Fl → Hh → Prop) (k : Env' → Hh → Res Fl) : Fl → Hh → Prop := fun fl h => match fl with
  | .nx e => evX X (k e h) Q
  | fl => Q fl h
variable {X : Exc → Hh → Prop}
theorem ev_mono {α : Type} {r : Res α} {P Q : α → Hh → Prop} (p : evX X r P) (k : ∀ a h, P a h → Q a h) : evX X r Q := by
  cases r with
  | ok a h => exact k a h p
  | _ => exact p
theorem ev_bind {α β : Type} {r : Res α} {f : α → Hh → Res β} {Q : β → Hh → Prop} : evX X (r.bind f) Q = evX X r fun a h => evX X (f a h) Q := by
  cases r <;> rfl
theorem ev_iff {α : Type} {r : Res α} {Q : α → Hh → Prop} : evX noX r Q ↔ ∃ a h, r = .ok a h ∧ Q a h := by
  cases r with
  | ok a h => exact ⟨fun q => ⟨a, h, rfl, q⟩, fun ⟨_, _, e, q⟩ => by cases e; exact q⟩
  | _ => exact ⟨fun q => q.elim, fun ⟨_, _, e, _⟩ => by cases e⟩
def ofR {α β : Type} (h : Hh) (o : Option α) (k : α → β) : Res β := Res.of h (o.map k)
/-! helpers with one eye -/
def fzR {α : Type} (x : R) (k : D → Res α) : Res α := match x.fz with
  | some d => k d
  | none => .bad
/-- a truth decides -/
def brR {α : Type} (x : R) (a b : Res α) : Res α := match x with
  | .dat (.bl true) => a
  | .dat (.bl false) => b
  | _ => .bad
theorem ev_br {α : Type} {p : Bool} {a b : Res α} {Q : α → Hh → Prop} (h1 : p = true → evX X a Q) (h2 : p = false → evX X b Q) : evX X (brR (.dat (.bl p)) a b) Q := by
  cases p with
  | true => exact h1 rfl
  | false => exact h2 rfl
def seqR (r : Res Fl) (k : Env' → Hh → Res Fl) : Res Fl := match r with
  | .ok (.nx e) h => k e h
  | r => r
theorem ev_seq {r : Res Fl} {k : Env' → Hh → Res Fl} {Q : Fl → Hh → Prop} : evX X (seqR r k) Q = evX X r (contFX X Q k) := by
  cases r with
  | ok fl h => cases fl <;> rfl
  | _ => rfl
def getV (s : Option Slot) (h : Hh) : Res R := match s with
  | some (.val d) => .ok (.dat d) h
  | some (.own l) => .ok (.bor l) h
  | _ => .bad
def lenR (ds : List D) (a : Res R) : Res R := if ds.length ≤ sizeLine then a else .bad
theorem lenR_ok {ds : List D} {a : Res R} (h : ds.length ≤ sizeLine) : lenR ds a = a := if_pos h
def ownR (s : Option Slot) (k : List D → Res Fl) : Res Fl := match s with
  | some (.own l) => k l
  | _ => .bad
theorem ownR_own {l : List D} {k : List D → Res Fl} : ownR (some (.own l)) k = k l := rfl
def newR {α : Type} (x : R) (k : List D → Res α) : Res α := match x with
  | .new l => k l
  | _ => .bad
def optR {α β : Type} (x : Option α) (k : α → Res β) : Res β := match x with
  | some a => k a
  | none => .bad
def tupR {α : Type} (x : R) (k : List D → Res α) : Res α := match x with
  | .dat (.tup l) => k l
  | _ => .bad
def strR {α : Type} (x : R) (k : Str → Res α) : Res α := match x with
  | .dat (.str l) => k l
  | _ => .bad
def intR {α : Type} (x : R) (k : Int → Res α) : Res α := match x with
  | .dat (.int l) => k l
  | _ => .bad
def proR (x : R) (h : Hh) : Res R := match x with
  | .new l => .ok (.dat (.ref h.length)) (h ++ [.lst l])
  | .dat d => .ok (.dat d) h
  | .bor _ => .bad
def setLR (x : R) (y : R) (d : D) (env : Env') (h : Hh) : Res Fl := match x, y with
  | .dat (.ref n), .dat (.int i) => match h[n]? with
    | some (.lst l) => match ixN l.length i with
      | some j => .ok (.nx env) (h.set n (.lst (l.set j d)))
      | none => .bad
    | _ => .bad
  | _, _ => .bad
theorem setLR_ok {n : Nat} {i : Int} {l : List D} {j : Nat} {d : D} {env : Env'} {h : Hh} (e : h[n]? = some (.lst l)) (q : ixN l.length i = some j) : setLR (.dat (.ref n)) (.dat (.int i)) d env h = .ok (.nx env) (h.set n (.lst (l.set j d))) := by
  simp only [setLR, e, q]
def setDR (x : R) (y : R) (d : D) (env : Env') (h : Hh) : Res Fl := match x, y with
  | .dat (.ref n), .dat kd => match h[n]?, keyOf kd with
    | some (.dct l), some kk => if l.length < sizeLine then .ok (.nx env) (h.set n (.dct (dPut l kk d))) else .bad
    | _, _ => .bad
  | _, _ => .bad
theorem setDR_ok {n : Nat} {kd : D} {l : List (Key × D)} {kk : Key} {d : D} {env : Env'} {h : Hh} (e : h[n]? = some (.dct l)) (q : keyOf kd = some kk) (z : l.length < sizeLine) : setDR (.dat (.ref n)) (.dat kd) d env h = .ok (.nx env) (h.set n (.dct (dPut l kk d))) := by
  simp only [setDR, e, q, if_pos z]
def setOR (l : List D) (i : Nat) (y : R) (d : D) (env : Env') (h : Hh) : Res Fl := match y with
  | .dat (.int z) => match ixN l.length z with
    | some j => .ok (.nx (env.set i (.own (l.set j d)))) h
    | none => .bad
  | _ => .bad
theorem setOR_ok {l : List D} {i j : Nat} {z : Int} {d : D} {env : Env'} {h : Hh} (q : ixN l.length z = some j) : setOR l i (.dat (.int z)) d env h = .ok (.nx (env.set i (.own (l.set j d)))) h := by
  simp only [setOR, q]
def appR (l : List D) (i : Nat) (d : D) (env : Env') (h : Hh) : Res Fl := if l.length < sizeLine then .ok (.nx (env.set i (.own (l ++ [d])))) h else .bad
theorem appR_ok {l : List D} {i : Nat} {d : D} {env : Env'} {h : Hh} (z : l.length < sizeLine) : appR l i d env h = .ok (.nx (env.set i (.own (l ++ [d])))) h := if_pos z
def retR (x : R) (h : Hh) : Res Fl := match x with
  | .bor _ => .bad
  | r => .ok (.rt r) h
def rngR (x y : R) (h : Hh) : Res (List D) := match x, y with
    | .dat (.int i), .dat (.int j) => if rngOk i && rngOk j then .ok (rngL i (j - i).toNat) h else .bad
    | _, _ => .bad
theorem rngR_ok {i j : Int} {h : Hh} (q : (rngOk i && rngOk j) = true) : rngR (.dat (.int i)) (.dat (.int j)) h = .ok (rngL i (j - i).toNat) h := by simp only [rngR, q, if_true]
def rng1R (x : R) (h : Hh) : Res (List D) := match x with
    | .dat (.int j) => if rngOk j then .ok (rngL 0 j.toNat) h else .bad
    | _ => .bad
theorem rng1R_ok {j : Int} {h : Hh} (q : rngOk j = true) : rng1R (.dat (.int j)) h = .ok (rngL 0 j.toNat) h := by simp only [rng1R, q, if_true]
section
variable (C : Calls') (G : Str → Option D)
/-- a comprehension's walk -/
def compR (own : List Nat) (t : Tg) (c e : E) (env : Env') (ds : List D) (h : Hh) : Res R := compLoop (compF C G own t c e env) ds [] h
def forR (t : Tg) (b : Ss) (ds : List D) (env : Env') (h : Hh) : Res Fl := forLoop t (fun env' h' => execSs C G b env' h') ds env h
def whlR (c : E) (b : Ss) (n : Nat) (env : Env') (h : Hh) : Res Fl := whlLoop (fun env' h' => evalE C G c env' h') (fun env' h' => execSs C G b env' h') n env h
end
section
variable {C : Calls'} {G : Str → Option D} {env : Env'} {h : Hh}
theorem x_var {i : Nat} : evalE C G (.var i) env h = getV env[i]? h := by
  conv => lhs; unfold evalE
  rfl
theorem x_con {d : D} : evalE C G (.con d) env h = .ok (.dat d) h := by conv => lhs; unfold evalE
theorem x_glo {x : Str} : evalE C G (.glo x) env h = Res.of h ((G x).map .dat) := by conv => lhs; unfold evalE
theorem x_bin {op : Bop} {a b : E} : evalE C G (.bin op a b) env h = (evalE C G a env h).bind fun x h1 => (evalE C G b env h1).bind fun y h2 => Res.of h2 (binF h2 op x y) := by conv => lhs; unfold evalE
theorem x_neg {a : E} : evalE C G (.neg a) env h = (evalE C G a env h).bind fun x h1 => Res.of h1 (negF x) := by conv => lhs; unfold evalE
theorem x_cmp {op : Cop} {a b : E} : evalE C G (.cmp op a b) env h = (evalE C G a env h).bind fun x h1 => (evalE C G b env h1).bind fun y h2 => ofR h2 (cmpF h2 op x y) fun b => .dat (.bl b) := by
  conv => lhs; unfold evalE
  rfl
theorem x_chain {p q : Cop} {a b c : E} : evalE C G (.chain p q a b c) env h = (evalE C G a env h).bind fun x h1 => (evalE C G b env h1).bind fun y h2 => (ofR h2 (cmpF h2 p x y) fun b => .dat (.bl b)).bind fun z h3 => brR z ((evalE C G c env h3).bind fun z h3 => ofR h3 (cmpF h3 q y z) fun b => .dat (.bl b)) (.ok (.dat (.bl false)) h3) := by
  conv => lhs; unfold evalE
  congr 1; funext x h1; congr 1; funext y h2
  cases cmpF h2 p x y with
  | none => rfl
  | some b => cases b <;> rfl
theorem x_and {a b : E} : evalE C G (.and2 a b) env h = (evalE C G a env h).bind fun x h1 => brR x (evalE C G b env h1) (.ok (.dat (.bl false)) h1) := by
  conv => lhs; unfold evalE
  rfl
theorem x_or {a b : E} : evalE C G (.or2 a b) env h = (evalE C G a env h).bind fun x h1 => brR x (.ok (.dat (.bl true)) h1) (evalE C G b env h1) := by
  conv => lhs; unfold evalE
  rfl
def notR (x : R) (h : Hh) : Res R := match x with
  | .dat (.bl k) => .ok (.dat (.bl (!k))) h
  | _ => .bad
theorem x_not {a : E} : evalE C G (.not1 a) env h = (evalE C G a env h).bind fun x h1 => notR x h1 := by
  conv => lhs; unfold evalE
  rfl
theorem x_ite {c a b : E} : evalE C G (.ite c a b) env h = (evalE C G c env h).bind fun x h1 => brR x (evalE C G a env h1) (evalE C G b env h1) := by
  conv => lhs; unfold evalE
  rfl
theorem x_call {f : Str} {es : Es} : evalE C G (.call f es) env h = (evalEs C G es env h).bind fun ds h1 => C f ds h1 := by conv => lhs; unfold evalE
theorem x_blt {f : Blt} {es : Es} : evalE C G (.blt f es) env h = (evalEs C G es env h).bind fun ds h1 => Res.of h1 (bltF h1 f ds) := by conv => lhs; unfold evalE
theorem x_blt1 {f : Blt} {a : E} : evalE C G (.blt1 f a) env h = (evalE C G a env h).bind fun x h1 => Res.of h1 (bltR h1 f x) := by conv => lhs; unfold evalE
theorem x_isi {a : E} {t : Ty} : evalE C G (.isi a t) env h = (evalE C G a env h).bind fun x h1 => fzR x fun d => ofR h1 (isiF h1 t d) fun b => .dat (.bl b) := by
  conv => lhs; unfold evalE
  rfl
theorem x_mth {m : Mth} {o : E} {es : Es} : evalE C G (.mth m o es) env h = (evalE C G o env h).bind fun x h1 => strR x fun a => (evalEs C G es env h1).bind fun ds h2 => Res.of h2 (mthF m a ds) := by
  conv => lhs; unfold evalE
  rfl
theorem x_ix {a b : E} : evalE C G (.ix a b) env h = (evalE C G a env h).bind fun x h1 => (evalE C G b env h1).bind fun y h2 => ofR h2 (ixF h2 x y) .dat := by
  conv => lhs; unfold evalE
  rfl
theorem x_dget {a b : E} : evalE C G (.dget a b) env h = (evalE C G a env h).bind fun x h1 => (evalE C G b env h1).bind fun y h2 => ofR h2 (dgetF h2 x y) .dat := by
  conv => lhs; unfold evalE
  rfl
theorem x_sl {a : E} {lo hi : Oe} : evalE C G (.sl a lo hi) env h = (evalE C G a env h).bind fun x h1 => (evalO C G lo env h1).bind fun i h2 => (evalO C G hi env h2).bind fun j h3 => Res.of h3 (slF h3 i j x) := by conv => lhs; unfold evalE
theorem x_tup {es : Es} : evalE C G (.tup es) env h = (evalEs C G es env h).bind fun ds h1 => lenR ds (.ok (.dat (.tup ds)) h1) := by
  conv => lhs; unfold evalE
  rfl
theorem x_lst {es : Es} : evalE C G (.lst es) env h = (evalEs C G es env h).bind fun ds h1 => lenR ds (.ok (.new ds) h1) := by
  conv => lhs; unfold evalE
  rfl
def dctR (ks : List Key) (ds : List D) (h1 : Hh) : Res R := if ks.length ≤ 15 ∧ ks.Nodup then .ok (.dat (.ref h1.length)) (h1 ++ [.dct (ks.zip ds)]) else .bad
theorem dctR_ok {ks : List Key} {ds : List D} (z : ks.length ≤ 15 ∧ ks.Nodup) : dctR ks ds h = .ok (.dat (.ref h.length)) (h ++ [.dct (ks.zip ds)]) := if_pos z
theorem x_dct {ks : List Key} {es : Es} : evalE C G (.dct ks es) env h = (evalEs C G es env h).bind fun ds h1 => dctR ks ds h1 := by
  conv => lhs; unfold evalE
  rfl
theorem x_comp {own : List Nat} {t : Tg} {it : Iter} {c e : E} : evalE C G (.comp own t it c e) env h = (evalI C G it env h).bind fun ds h1 => compR C G own t c e env ds h1 := by
  conv => lhs; unfold evalE
  rfl
theorem x_promo {e : E} : evalE C G (.promo e) env h = (evalE C G e env h).bind fun x h1 => proR x h1 := by
  conv => lhs; unfold evalE
  rfl
theorem x_ono : evalO C G .no env h = .ok none h := by conv => lhs; unfold evalO
theorem x_opart {e : E} : evalO C G (.part e) env h = (evalE C G e env h).bind fun x h1 => intR x fun i => .ok (some i) h1 := by
  conv => lhs; unfold evalO
  rfl
theorem x_nil : evalEs C G .nil env h = .ok [] h := by conv => lhs; unfold evalEs
theorem x_cons {e : E} {es : Es} : evalEs C G (.cons e es) env h = (evalE C G e env h).bind fun x h1 => fzR x fun d => (evalEs C G es env h1).bind fun ds h2 => .ok (d :: ds) h2 := by
  conv => lhs; unfold evalEs
  rfl
theorem x_seq {e : E} : evalI C G (.seq e) env h = (evalE C G e env h).bind fun x h1 => Res.of h1 (itF x) := by conv => lhs; unfold evalI
theorem x_rng1 {a : E} : evalI C G (.rng1 a) env h = (evalE C G a env h).bind fun x h1 => rng1R x h1 := by
  conv => lhs; unfold evalI
  rfl
theorem x_rng2 {a b : E} : evalI C G (.rng2 a b) env h = (evalE C G a env h).bind fun x h1 => (evalE C G b env h1).bind fun y h2 => rngR x y h2 := by
  conv => lhs; unfold evalI
  rfl
theorem x_rng3 {a b c : E} : evalI C G (.rng3 a b c) env h = (evalE C G a env h).bind fun x h1 => (evalE C G b env h1).bind fun y h2 => (evalE C G c env h2).bind fun z h3 => rng3R x y z h3 := by
  conv => lhs; unfold evalI
theorem x_enum {e : E} : evalI C G (.enum e) env h = (evalE C G e env h).bind fun x h1 => ofR h1 (itE x) (enumL 0) := by
  conv => lhs; unfold evalI
  rfl
/-! statements -/
theorem y_asg {i : Nat} {e : E} : execS C G (.asg i e) env h = (evalE C G e env h).bind fun x h1 => fzR x fun d => .ok (.nx (env.set i (.val d))) h1 := by
  conv => lhs; unfold execS
  rfl
theorem y_own {i : Nat} {e : E} : execS C G (.own i e) env h = (evalE C G e env h).bind fun x h1 => newR x fun l => .ok (.nx (env.set i (.own l))) h1 := by
  conv => lhs; unfold execS
  rfl
def anyR (i : Nat) (env : Env') (h : Hh) : R → Res Fl
  | .new l => .ok (.nx (env.set i (.own l))) h
  | .dat d => .ok (.nx (env.set i (.val d))) h
  | .bor _ => .bad
theorem y_any {i : Nat} {e : E} : execS C G (.any i e) env h = (evalE C G e env h).bind fun x h1 => anyR i env h1 x := by
  conv => lhs; unfold execS
  refine congrArg (Res.bind _) ?_
  funext x h1
  cases x <;> rfl
theorem y_asgs {is : List Nat} {e : E} : execS C G (.asgs is e) env h = (evalE C G e env h).bind fun x h1 => tupR x fun ds => optR (setVs env is ds) fun env' => .ok (.nx env') h1 := by
  conv => lhs; unfold execS
  congr 1; funext x h1
  cases x with
  | dat d =>
    cases d with
    | tup ds =>
      show (match setVs env is ds with
        | some env' => Res.ok (Fl.nx env') h1
        | none => Res.bad) = optR (setVs env is ds) _
      cases setVs env is ds <;> rfl
    | _ => rfl
  | _ => rfl
theorem y_setL {o k e : E} : execS C G (.setL o k e) env h = (evalE C G e env h).bind fun v h1 => fzR v fun d => (evalE C G o env h1).bind fun x h2 => (evalE C G k env h2).bind fun y h3 => setLR x y d env h3 := by
  conv => lhs; unfold execS
  congr 1; funext v h1; unfold fzR; cases v.fz <;> rfl
theorem y_setD {o k e : E} : execS C G (.setD o k e) env h = (evalE C G e env h).bind fun v h1 => fzR v fun d => (evalE C G o env h1).bind fun x h2 => (evalE C G k env h2).bind fun y h3 => setDR x y d env h3 := by
  conv => lhs; unfold execS
  congr 1; funext v h1; unfold fzR; cases v.fz <;> rfl
theorem y_setOwn {i : Nat} {k e : E} : execS C G (.setOwn i k e) env h = (evalE C G e env h).bind fun v h1 => fzR v fun d => ownR env[i]? fun l => (evalE C G k env h1).bind fun y h2 => setOR l i y d env h2 := by
  conv => lhs; unfold execS
  congr 1; funext v h1; unfold fzR
  cases v.fz with
  | none => rfl
  | some d =>
    show _ = ownR env[i]? _
    cases env[i]? with
    | none => rfl
    | some s => cases s <;> rfl
theorem y_app {i : Nat} {e : E} : execS C G (.app i e) env h = ownR env[i]? fun l => (evalE C G e env h).bind fun v h1 => fzR v fun d => appR l i d env h1 := by
  conv => lhs; unfold execS
  cases env[i]? with
  | none => rfl
  | some s =>
    cases s with
    | own l =>
      show Res.bind _ _ = Res.bind _ _
      congr 1; funext v h1; unfold fzR; cases v.fz <;> rfl
    | _ => rfl
def extR (l : List D) (i : Nat) (v : R) (env : Env') (h1 : Hh) : Res Fl := match svN h1 v with
      | some m => if l.length + m.length ≤ sizeLine then .ok (.nx (env.set i (.own (l ++ m)))) h1 else .bad
      | none => .bad
theorem y_ext {i : Nat} {e : E} : execS C G (.ext i e) env h = ownR env[i]? fun l => (evalE C G e env h).bind fun v h1 => extR l i v env h1 := by
  conv => lhs; unfold execS
  cases env[i]? with
  | none => rfl
  | some s => cases s <;> rfl
theorem y_expr {e : E} : execS C G (.expr e) env h = (evalE C G e env h).bind fun _ h1 => .ok (.nx env) h1 := by conv => lhs; unfold execS
theorem y_ifs {c : E} {a b : Ss} : execS C G (.ifs c a b) env h = (evalE C G c env h).bind fun x h1 => brR x (execSs C G a env h1) (execSs C G b env h1) := by
  conv => lhs; unfold execS
  rfl
theorem y_for {t : Tg} {it : Iter} {b : Ss} : execS C G (.for' t it b) env h = (evalI C G it env h).bind fun ds h1 => forR C G t b ds env h1 := by
  conv => lhs; unfold execS
  rfl
theorem y_whl {c : E} {b : Ss} : execS C G (.whl c b) env h = whlR C G c b whlMost env h := by
  conv => lhs; unfold execS
  rfl
theorem y_ret {e : E} : execS C G (.ret e) env h = (evalE C G e env h).bind fun x h1 => retR x h1 := by
  conv => lhs; unfold execS
  rfl
theorem y_retV {i : Nat} : execS C G (.retV i) env h = ownR env[i]? fun l => .ok (.rt (.new l)) h := by
  conv => lhs; unfold execS
  rfl
theorem y_retn : execS C G .retn env h = .ok (.rt (.dat .non)) h := by conv => lhs; unfold execS
theorem y_pass : execS C G .pass env h = .ok (.nx env) h := by conv => lhs; unfold execS
theorem y_brk : execS C G .brk env h = .ok (.bk env) h := by conv => lhs; unfold execS
theorem y_cnt : execS C G .cnt env h = .ok (.ct env) h := by conv => lhs; unfold execS
theorem y_frz {i : Nat} : execS C G (.frz i) env h = ownR env[i]? fun l => .ok (.nx (env.set i (.val (.lst l)))) h := by
  conv => lhs; unfold execS
  rfl
theorem z_nil : execSs C G .nil env h = .ok (.nx env) h := by conv => lhs; unfold execSs
theorem z_cons {s : S} {ss : Ss} : execSs C G (.cons s ss) env h = seqR (execS C G s env h) fun env' h' => execSs C G ss env' h' := by
  conv => lhs; unfold execSs
  cases execS C G s env h with
  | ok fl h' => cases fl <;> rfl
  | _ => rfl
end
/-! a call -/
def rtR (r : Res Fl) : Res R := match r with
    | .ok (.rt r) h' => .ok r h'
    | .ok (.nx _) h' => .ok (.dat .non) h'
    | .ex x h' => .ex x h'
    | _ => .bad
def endQ (Q : R → Hh → Prop) : Fl → Hh → Prop := fun fl h => match fl with
  | .rt r => Q r h
  | .nx _ => Q (.dat .non) h
  | _ => False
theorem ev_rt {r : Res Fl} {Q : R → Hh → Prop} : evX X (rtR r) Q = evX X r (endQ Q) := by
  cases r with
  | ok fl h => cases fl <;> rfl
  | _ => rfl
theorem run_s {T : Tab} {G : Str → Option D} {n : Nat} {f : Str} {d : Fn} (e : T f = some d) (ds : List D) (h : Hh) (hl : ds.length = d.pars) : run T G (n + 1) f ds h = rtR (execSs (run T G n) G d.body (d.env ds) h) := by
  conv => lhs; unfold run
  rw [e]
  show runBody _ G d ds h = _
  unfold runBody
  rw [if_pos hl]
  rfl
/-! loops -/
section
variable {C : Calls'} {G : Str → Option D}
theorem ev_for {t : Tg} {b : Ss} {Q : Fl → Hh → Prop} (I : Nat → Env' → Hh → Prop) : ∀ {ds : List D} {env : Env'} {h : Hh}, I 0 env h →
    (∀ i d env h, ds[i]? = some d → I i env h → ∃ env1, t.bind env d = some env1 ∧ evX X (execSs C G b env1 h) fun fl h2 => match fl with
      | .nx e => I (i + 1) e h2
      | .ct e => I (i + 1) e h2
      | .bk e => Q (.nx e) h2
      | .rt r => Q (.rt r) h2) → (∀ env h, I ds.length env h → Q (.nx env) h) → evX X (forR C G t b ds env h) Q := by
  intro ds
  induction ds generalizing I with
  | nil =>
    intro env h i0 _ done
    exact done env h i0
  | cons d ds ih =>
    intro env h i0 step done
    obtain ⟨env1, e1, p⟩ := step 0 d env h rfl i0
    unfold forR forLoop
    rw [e1]
    show evX X (match execSs C G b env1 h with
      | .ok (.nx env2) h2 => forR C G t b ds env2 h2
      | .ok (.ct env2) h2 => forR C G t b ds env2 h2
      | .ok (.bk env2) h2 => .ok (.nx env2) h2
      | .ok (.rt r) h2 => .ok (.rt r) h2
      | .ex x h2 => .ex x h2
      | .bad => .bad) Q
    cases q : execSs C G b env1 h with
    | bad => rw [q] at p; exact p
    | ex x h => rw [q] at p; exact p
    | ok fl h2 =>
      rw [q] at p
      have go : ∀ e, I 1 e h2 → evX X (forR C G t b ds e h2) Q := fun e i1 => ih (fun i => I (i + 1)) i1 (fun i d' env' h' hd => step (i + 1) d' env' h' (by simpa using hd)) done
      cases fl with
      | nx e => exact go e p
      | ct e => exact go e p
      | bk e => exact p
      | rt r => exact p
/-- a comprehension: what stands after each -/
theorem ev_comp {own : List Nat} {t : Tg} {c e : E} {env : Env'} {Q : R → Hh → Prop} (I : Nat → List D → Hh → Prop) : ∀ {ds : List D} {h : Hh} {acc : List D}, I 0 acc h → acc.length + ds.length ≤ sizeLine →
    (∀ i d acc h, ds[i]? = some d → I i acc h → ∃ env1, t.bind (wipeE env own) d = some env1 ∧ evX noX (compG C G c e env1 h) fun x h2 => match x with
      | none => I (i + 1) acc h2
      | some y => I (i + 1) (acc ++ [y]) h2) → (∀ acc h, I ds.length acc h → Q (.new acc) h) → evX X (compLoop (compF C G own t c e env) ds acc h) Q := by
  intro ds
  induction ds generalizing I with
  | nil =>
    intro h acc i0 _ _ done
    exact done acc h i0
  | cons d ds ih =>
    intro h acc i0 hl step done
    obtain ⟨env1, e1, p⟩ := step 0 d acc h rfl i0
    have ef : compF C G own t c e env d h = compG C G c e env1 h := by unfold compF; rw [e1]
    unfold compLoop
    rw [ef]
    simp only [List.length_cons] at hl
    cases q : compG C G c e env1 h with
    | bad => rw [q] at p; exact p.elim
    | ex x h => rw [q] at p; exact p.elim
    | ok o h2 =>
      rw [q] at p
      cases o with
      | none => exact ih (fun i => I (i + 1)) p (by omega) (fun i d' acc' h' hd => step (i + 1) d' acc' h' (by simpa using hd)) done
      | some y =>
        show evX X (if acc.length < sizeLine then _ else _) Q
        rw [if_pos (by omega)]
        exact ih (fun i => I (i + 1)) p (by simp; omega) (fun i d' acc' h' hd => step (i + 1) d' acc' h' (by simpa using hd)) done
theorem x_compG {c e : E} {env : Env'} {h : Hh} : compG C G c e env h = (evalE C G c env h).bind fun b h3 => brR b ((evalE C G e env h3).bind fun x h4 => fzR x fun y => .ok (some y) h4) (.ok none h3) := by
  unfold compG
  rfl
/-- nothing else happens: a map -/
theorem comp_map {own : List Nat} {t : Tg} {c e : E} {env : Env'} {h : Hh} (g : D → D) : ∀ {ds acc : List D}, acc.length + ds.length ≤ sizeLine → (∀ d ∈ ds, compF C G own t c e env d h = .ok (some (g d)) h) → compLoop (compF C G own t c e env) ds acc h = .ok (.new (acc ++ ds.map g)) h
  | [], acc, _, _ => by simp [compLoop]
  | d :: ds, acc, hl, H => by
    unfold compLoop
    rw [H d List.mem_cons_self]
    simp only [List.length_cons] at hl
    show (if acc.length < sizeLine then compLoop (compF C G own t c e env) ds (acc ++ [g d]) h else .bad) = _
    rw [if_pos (by omega), comp_map g (by simp; omega) fun d' hd => H d' (List.mem_cons_of_mem _ hd)]
    simp
theorem comp_filter {own : List Nat} {t : Tg} {c e : E} {env : Env'} {h : Hh} (p : D → Bool) (g : D → D) : ∀ {ds acc : List D}, acc.length + ds.length ≤ sizeLine → (∀ d ∈ ds, compF C G own t c e env d h = .ok (if p d then some (g d) else none) h) →
    compLoop (compF C G own t c e env) ds acc h = .ok (.new (acc ++ (ds.filter p).map g)) h
  | [], acc, _, _ => by simp [compLoop]
  | d :: ds, acc, hl, H => by
    unfold compLoop
    rw [H d List.mem_cons_self]
    simp only [List.length_cons] at hl
    by_cases q : p d = true
    · rw [if_pos q]
      show (if acc.length < sizeLine then compLoop (compF C G own t c e env) ds (acc ++ [g d]) h else .bad) = _
      rw [if_pos (by omega), comp_filter p g (by simp; omega) fun d' hd => H d' (List.mem_cons_of_mem _ hd)]
      simp [List.filter_cons, q]
    · rw [if_neg q]
      show compLoop (compF C G own t c e env) ds acc h = _
      rw [comp_filter p g (by omega) fun d' hd => H d' (List.mem_cons_of_mem _ hd)]
      simp [List.filter_cons, q]
end
/-! ### step by step -/
section
variable {C : Calls'} {G : Str → Option D} {env : Env'} {h : Hh} {Q : R → Hh → Prop} {QL : List D → Hh → Prop} {QO : Option Int → Hh → Prop} {QF : Fl → Hh → Prop}
theorem w_var {i : Nat} {d : D} (e : env[i]? = some (.val d)) (p : Q (.dat d) h) : evX X (evalE C G (.var i) env h) Q := by rw [x_var, e]; exact p
theorem w_varO {i : Nat} {d : List D} (e : env[i]? = some (.own d)) (p : Q (.bor d) h) : evX X (evalE C G (.var i) env h) Q := by rw [x_var, e]; exact p
theorem w_lrng1 {a : E} (p : evX X (evalE C G a env h) fun x h1 => evX X (lrngR 0 x h1) Q) : evX X (evalE C G (.lrng1 a) env h) Q := by
  conv => arg 2; unfold evalE
  rw [ev_bind]; exact p
theorem w_lrng2 {a b : E} (p : evX X (evalE C G a env h) fun x h1 => evX X (evalE C G b env h1) fun y h2 => evX X (lrngR2 x y h2) Q) : evX X (evalE C G (.lrng2 a b) env h) Q := by
  conv => arg 2; unfold evalE
  rw [ev_bind]
  refine ev_mono p fun x h1 p => ?_
  rw [ev_bind]; exact p
theorem w_lrngR {i j : Int} (e : -(2 ^ 62) ≤ i ∧ i < 2 ^ 62 ∧ -(2 ^ 62) ≤ j ∧ j < 2 ^ 62 ∧ j - i ≤ 16777216) (p : Q (.new (rngL i (j - i).toNat)) h) : evX X (lrngR i (.dat (.int j)) h) Q := by
  show evX X (if (rngOk i && rngOk j && decide ((j - i).toNat ≤ 16777216)) = true then .ok (.new (rngL i (j - i).toNat)) h else .bad) Q
  rw [if_pos (by
    have h1 : rngOk i = true := by unfold rngOk; simp; omega
    have h2 : rngOk j = true := by unfold rngOk; simp; omega
    rw [h1, h2, decide_eq_true (by omega)]; rfl)]
  exact p
theorem w_lrngR2 {i : Int} {y : R} (p : evX X (lrngR i y h) Q) : evX X (lrngR2 (.dat (.int i)) y h) Q := p
theorem w_max2 {i j : Int} (p : Q (.dat (.int (max i j))) h) : evX X (Res.of h (bltF h .max2 [.int i, .int j])) Q := by
  show Q (.dat (.int (if j > i then j else i))) h
  have e : (if j > i then j else i) = max i j := by rw [Int.max_def]; split <;> split <;> omega
  rw [e]; exact p
theorem w_min2 {i j : Int} (p : Q (.dat (.int (min i j))) h) : evX X (Res.of h (bltF h .min2 [.int i, .int j])) Q := by
  show Q (.dat (.int (if j < i then j else i))) h
  have e : (if j < i then j else i) = min i j := by rw [Int.min_def]; split <;> split <;> omega
  rw [e]; exact p
theorem intsOf_map : ∀ ns : List Int, intsOf (ns.map .int) = some ns
  | [] => rfl
  | n :: ns => by simp [intsOf, intsOf_map ns]
theorem w_sum {ns : List Int} (p : Q (.dat (.int ns.sum)) h) : evX X (Res.of h (bltF h .sum [.lst (ns.map .int)])) Q := by
  show evX X (Res.of h ((intsL h (.lst (ns.map .int))).map fun ns => R.dat (.int ns.sum))) Q
  have e : intsL h (.lst (ns.map .int)) = some ns := intsOf_map ns
  rw [e]; exact p
theorem w_zip {a b : E} (p : evX X (evalE C G a env h) fun x h1 => evX X (evalE C G b env h1) fun y h2 => evX X (Res.of h2 (zipF x y)) QL) : evX X (evalI C G (.zip a b) env h) QL := by
  conv => arg 2; unfold evalI
  rw [ev_bind]
  refine ev_mono p fun x h1 p => ?_
  rw [ev_bind]; exact p
theorem w_zipN {a b : E} (p : evX X (evalE C G a env h) fun x h1 => evX X (evalE C G b env h1) fun y h2 => evX X (Res.of h2 (zipFN x y)) QL) : evX X (evalI C G (.zipN a b) env h) QL := by
  conv => arg 2; unfold evalI
  rw [ev_bind]
  refine ev_mono p fun x h1 p => ?_
  rw [ev_bind]; exact p
theorem w_zipNL {l m : List D} (p : QL (zipL l m) h) : evX X (Res.of h (zipFN (.dat (.lst l)) (.dat (.lst m)))) QL := p
theorem w_zipNN {l m : List D} (p : QL (zipL l m) h) : evX X (Res.of h (zipFN (.dat (.lst l)) (.new m))) QL := p
theorem w_zipT {l m : List D} (p : QL (zipL l m) h) : evX X (Res.of h (zipF (.dat (.tup l)) (.dat (.tup m)))) QL := p
theorem w_zipL {l m : List D} (p : QL (zipL l m) h) : evX X (Res.of h (zipF (.dat (.lst l)) (.dat (.lst m)))) QL := p
theorem w_zipLN {l m : List D} (p : QL (zipL l m) h) : evX X (Res.of h (zipF (.dat (.lst l)) (.new m))) QL := p
theorem w_fnv {x : Str} (p : Q (.dat (.sp false x [])) h) : evX X (evalE C G (.fnv x) env h) Q := by
  conv => arg 2; unfold evalE
  exact p
theorem w_isx {a : E} {c : Str} (p : evX X (evalE C G a env h) fun x h1 => evX X (isxR c h1 x) Q) : evX X (evalE C G (.isx a c) env h) Q := by
  conv => arg 2; unfold evalE
  rw [ev_bind]; exact p
def attrR (f : Str) (h : Hh) : R → Res R
  | .dat (.sp true k l) => Res.of h ((attrF k l f).map .dat)
  | _ => .bad
theorem w_attr {a : E} {f : Str} (p : evX X (evalE C G a env h) fun x h1 => evX X (attrR f h1 x) Q) : evX X (evalE C G (.attr a f) env h) Q := by
  conv => arg 2; unfold evalE
  rw [ev_bind]; exact p
theorem w_attrR {k f : Str} {l : List D} {d : D} (e : attrF k l f = some d) (p : Q (.dat d) h) : evX X (attrR f h (.dat (.sp true k l))) Q := by
  show evX X (Res.of h ((attrF k l f).map .dat)) Q
  rw [e]; exact p
theorem w_callv {i : Nat} {es : Es} {x : Str} {l : List D} (e : env[i]? = some (.val (.sp false x l))) (p : evX X (evalEs C G es env h) fun ds h1 => evX X (C x ds h1) Q) : evX X (evalE C G (.callv i es) env h) Q := by
  conv => arg 2; unfold evalE
  rw [e]
  show evX X ((evalEs C G es env h).bind fun ds h1 => C x ds h1) Q
  rw [ev_bind]; exact p
theorem w_told {f : Str} {e : E} (p : evX (fun x h1 => evX noX (C f [.sp true x.cls x.fs] h1) Q) (evalE C G e env h) fun r h1 => evX X (fzR r fun d => .ok (.new [d]) h1) Q) : evX X (evalE C G (.told f e) env h) Q := by
  conv => arg 2; unfold evalE
  cases q : evalE C G e env h with
  | bad => rw [q] at p; exact p.elim
  | ok r h1 =>
    rw [q] at p
    have p : evX X (fzR r fun d => .ok (.new [d]) h1) Q := p
    unfold fzR at p
    show evX X (match r.fz with
      | some d => .ok (.new [d]) h1
      | none => .bad) Q
    exact p
  | ex x h1 =>
    rw [q] at p
    show evX X (noEx (C f [.sp true x.cls x.fs] h1)) Q
    have p : evX noX (C f [.sp true x.cls x.fs] h1) Q := p
    cases q2 : C f [.sp true x.cls x.fs] h1 with
    | bad => rw [q2] at p; exact p.elim
    | ex y g => rw [q2] at p; exact p.elim
    | ok r g => rw [q2] at p; exact p
theorem w_con {d : D} (p : Q (.dat d) h) : evX X (evalE C G (.con d) env h) Q := by rw [x_con]; exact p
theorem w_glo {x : Str} {d : D} (e : G x = some d) (p : Q (.dat d) h) : evX X (evalE C G (.glo x) env h) Q := by rw [x_glo, e]; exact p
theorem w_bin {op : Bop} {a b : E} (p : evX X (evalE C G a env h) fun x h1 => evX X (evalE C G b env h1) fun y h2 => evX X (Res.of h2 (binF h2 op x y)) Q) : evX X (evalE C G (.bin op a b) env h) Q := by
  rw [x_bin]; simpa only [ev_bind] using p
theorem w_neg {a : E} (p : evX X (evalE C G a env h) fun x h1 => evX X (Res.of h1 (negF x)) Q) : evX X (evalE C G (.neg a) env h) Q := by
  rw [x_neg]; simpa only [ev_bind] using p
theorem w_cmp {op : Cop} {a b : E} (p : evX X (evalE C G a env h) fun x h1 => evX X (evalE C G b env h1) fun y h2 => evX X (ofR h2 (cmpF h2 op x y) fun b => .dat (.bl b)) Q) : evX X (evalE C G (.cmp op a b) env h) Q := by
  rw [x_cmp]; simpa only [ev_bind] using p
theorem w_chain {o1 o2 : Cop} {a b c : E} (p : evX X (evalE C G a env h) fun x h1 => evX X (evalE C G b env h1) fun y h2 => evX X (ofR h2 (cmpF h2 o1 x y) fun b => .dat (.bl b)) fun z h3 =>
    evX X (brR z ((evalE C G c env h3).bind fun z h3 => ofR h3 (cmpF h3 o2 y z) fun b => .dat (.bl b)) (.ok (.dat (.bl false)) h3)) Q) : evX X (evalE C G (.chain o1 o2 a b c) env h) Q := by
  rw [x_chain]; simpa only [ev_bind] using p
theorem w_and {a b : E} (p : evX X (evalE C G a env h) fun x h1 => evX X (brR x (evalE C G b env h1) (.ok (.dat (.bl false)) h1)) Q) : evX X (evalE C G (.and2 a b) env h) Q := by
  rw [x_and]; simpa only [ev_bind] using p
theorem w_or {a b : E} (p : evX X (evalE C G a env h) fun x h1 => evX X (brR x (.ok (.dat (.bl true)) h1) (evalE C G b env h1)) Q) : evX X (evalE C G (.or2 a b) env h) Q := by
  rw [x_or]; simpa only [ev_bind] using p
theorem w_not {a : E} (p : evX X (evalE C G a env h) fun x h1 => evX X (notR x h1) Q) : evX X (evalE C G (.not1 a) env h) Q := by
  rw [x_not]; simpa only [ev_bind] using p
theorem w_ite {c a b : E} (p : evX X (evalE C G c env h) fun x h1 => evX X (brR x (evalE C G a env h1) (evalE C G b env h1)) Q) : evX X (evalE C G (.ite c a b) env h) Q := by
  rw [x_ite]; simpa only [ev_bind] using p
theorem w_call {f : Str} {es : Es} (p : evX X (evalEs C G es env h) fun ds h1 => evX X (C f ds h1) Q) : evX X (evalE C G (.call f es) env h) Q := by
  rw [x_call]; simpa only [ev_bind] using p
theorem w_blt {f : Blt} {es : Es} (p : evX X (evalEs C G es env h) fun ds h1 => evX X (Res.of h1 (bltF h1 f ds)) Q) : evX X (evalE C G (.blt f es) env h) Q := by
  rw [x_blt]; simpa only [ev_bind] using p
theorem w_blt1 {f : Blt} {a : E} (p : evX X (evalE C G a env h) fun x h1 => evX X (Res.of h1 (bltR h1 f x)) Q) : evX X (evalE C G (.blt1 f a) env h) Q := by
  rw [x_blt1]; simpa only [ev_bind] using p
theorem w_isi {a : E} {t : Ty} (p : evX X (evalE C G a env h) fun x h1 => evX X (fzR x fun d => ofR h1 (isiF h1 t d) fun b => .dat (.bl b)) Q) : evX X (evalE C G (.isi a t) env h) Q := by
  rw [x_isi]; simpa only [ev_bind] using p
theorem w_mth {m : Mth} {o : E} {es : Es} (p : evX X (evalE C G o env h) fun x h1 => evX X (strR x fun a => (evalEs C G es env h1).bind fun ds h2 => Res.of h2 (mthF m a ds)) Q) : evX X (evalE C G (.mth m o es) env h) Q := by
  rw [x_mth]; simpa only [ev_bind] using p
theorem w_ix {a b : E} (p : evX X (evalE C G a env h) fun x h1 => evX X (evalE C G b env h1) fun y h2 => evX X (ofR h2 (ixF h2 x y) .dat) Q) : evX X (evalE C G (.ix a b) env h) Q := by
  rw [x_ix]; simpa only [ev_bind] using p
theorem w_dget {a b : E} (p : evX X (evalE C G a env h) fun x h1 => evX X (evalE C G b env h1) fun y h2 => evX X (ofR h2 (dgetF h2 x y) .dat) Q) : evX X (evalE C G (.dget a b) env h) Q := by
  rw [x_dget]; simpa only [ev_bind] using p
theorem w_sl {a : E} {lo hi : Oe} (p : evX X (evalE C G a env h) fun x h1 => evX X (evalO C G lo env h1) fun i h2 => evX X (evalO C G hi env h2) fun j h3 => evX X (Res.of h3 (slF h3 i j x)) Q) : evX X (evalE C G (.sl a lo hi) env h) Q := by
  rw [x_sl]; simpa only [ev_bind] using p
theorem w_rev {a : E} (p : evX X (evalE C G a env h) fun x h1 => evX X (Res.of h1 (revF h1 x)) Q) : evX X (evalE C G (.rev a) env h) Q := by
  have e : evalE C G (.rev a) env h = (evalE C G a env h).bind fun x h1 => Res.of h1 (revF h1 x) := by conv => lhs; unfold evalE
  rw [e]; simpa only [ev_bind] using p
theorem w_revT {l : List D} (p : Q (.dat (.tup l.reverse)) h) : evX X (Res.of h (revF h (.dat (.tup l)))) Q := by
  show evX X (.ok (.dat (.tup l.reverse)) h) Q; exact p
theorem w_revL {l : List D} (p : Q (.new l.reverse) h) : evX X (Res.of h (revF h (.dat (.lst l)))) Q := by
  show evX X (.ok (.new l.reverse) h) Q; exact p
theorem w_revN {l : List D} (p : Q (.new l.reverse) h) : evX X (Res.of h (revF h (.new l))) Q := by
  show evX X (.ok (.new l.reverse) h) Q; exact p
theorem w_tup {es : Es} (p : evX X (evalEs C G es env h) fun ds h1 => evX X (lenR ds (.ok (.dat (.tup ds)) h1)) Q) : evX X (evalE C G (.tup es) env h) Q := by
  rw [x_tup]; simpa only [ev_bind] using p
theorem w_lst {es : Es} (p : evX X (evalEs C G es env h) fun ds h1 => evX X (lenR ds (.ok (.new ds) h1)) Q) : evX X (evalE C G (.lst es) env h) Q := by
  rw [x_lst]; simpa only [ev_bind] using p
theorem w_dct {ks : List Key} {es : Es} (p : evX X (evalEs C G es env h) fun ds h1 => evX X (dctR ks ds h1) Q) : evX X (evalE C G (.dct ks es) env h) Q := by
  rw [x_dct]; simpa only [ev_bind] using p
theorem w_comp {own : List Nat} {t : Tg} {it : Iter} {c e : E} (p : evX X (evalI C G it env h) fun ds h1 => evX X (compR C G own t c e env ds h1) Q) : evX X (evalE C G (.comp own t it c e) env h) Q := by
  rw [x_comp]; simpa only [ev_bind] using p
theorem w_compO {own : List Nat} {t : Tg} {j : Nat} {c e : E} {ds : List D} (q : env[j]? = some (.own ds)) (p : evX X (compR C G own t c e env ds h) Q) : evX X (evalE C G (.compO own t j c e) env h) Q := by
  have e : evalE C G (.compO own t j c e) env h = compR C G own t c e env ds h := by
    conv => lhs; unfold evalE
    rw [q]; rfl
  rw [e]; exact p
theorem w_promo {e : E} (p : evX X (evalE C G e env h) fun x h1 => evX X (proR x h1) Q) : evX X (evalE C G (.promo e) env h) Q := by
  rw [x_promo]; simpa only [ev_bind] using p
theorem w_ono (p : QO none h) : evX X (evalO C G .no env h) QO := by rw [x_ono]; exact p
theorem w_opart {e : E} (p : evX X (evalE C G e env h) fun x h1 => evX X (intR x fun i => .ok (some i) h1) QO) : evX X (evalO C G (.part e) env h) QO := by
  rw [x_opart]; simpa only [ev_bind] using p
theorem w_nil (p : QL [] h) : evX X (evalEs C G .nil env h) QL := by rw [x_nil]; exact p
theorem w_cons {e : E} {es : Es} (p : evX X (evalE C G e env h) fun x h1 => evX X (fzR x fun d => (evalEs C G es env h1).bind fun ds h2 => .ok (d :: ds) h2) QL) : evX X (evalEs C G (.cons e es) env h) QL := by
  rw [x_cons]; simpa only [ev_bind] using p
theorem w_seq {e : E} (p : evX X (evalE C G e env h) fun x h1 => evX X (Res.of h1 (itF x)) QL) : evX X (evalI C G (.seq e) env h) QL := by
  rw [x_seq]; simpa only [ev_bind] using p
theorem w_rng1 {a : E} (p : evX X (evalE C G a env h) fun x h1 => evX X (rng1R x h1) QL) : evX X (evalI C G (.rng1 a) env h) QL := by
  rw [x_rng1]; simpa only [ev_bind] using p
theorem w_rng2 {a b : E} (p : evX X (evalE C G a env h) fun x h1 => evX X (evalE C G b env h1) fun y h2 => evX X (rngR x y h2) QL) : evX X (evalI C G (.rng2 a b) env h) QL := by
  rw [x_rng2]; simpa only [ev_bind] using p
theorem w_rng3 {a b c : E} (p : evX X (evalE C G a env h) fun x h1 => evX X (evalE C G b env h1) fun y h2 => evX X (evalE C G c env h2) fun z h3 => evX X (rng3R x y z h3) QL) : evX X (evalI C G (.rng3 a b c) env h) QL := by
  rw [x_rng3]; simpa only [ev_bind] using p
theorem w_enum {e : E} (p : evX X (evalE C G e env h) fun x h1 => evX X (ofR h1 (itE x) (enumL 0)) QL) : evX X (evalI C G (.enum e) env h) QL := by
  rw [x_enum]; simpa only [ev_bind] using p
/-! helpers, known -/
theorem w_ok {α : Type} {a : α} {QA : α → Hh → Prop} (p : QA a h) : evX X (.ok a h) QA := p
theorem w_bind {α β : Type} {r : Res α} {f : α → Hh → Res β} {QB : β → Hh → Prop} (p : evX X r fun a h => evX X (f a h) QB) : evX X (r.bind f) QB := by rw [ev_bind]; exact p
theorem w_fzD {α : Type} {d : D} {k : D → Res α} {QA : α → Hh → Prop} (p : evX X (k d) QA) : evX X (fzR (.dat d) k) QA := p
theorem w_fzN {α : Type} {d : List D} {k : D → Res α} {QA : α → Hh → Prop} (p : evX X (k (.lst d)) QA) : evX X (fzR (.new d) k) QA := p
theorem w_brt {α : Type} {a b : Res α} {QA : α → Hh → Prop} (p : evX X a QA) : evX X (brR (.dat (.bl true)) a b) QA := p
theorem w_brf {α : Type} {a b : Res α} {QA : α → Hh → Prop} (p : evX X b QA) : evX X (brR (.dat (.bl false)) a b) QA := p
theorem w_notR {k : Bool} (p : Q (.dat (.bl (!k))) h) : evX X (notR (.dat (.bl k)) h) Q := p
theorem w_strR {α : Type} {a : Str} {k : Str → Res α} {QA : α → Hh → Prop} (p : evX X (k a) QA) : evX X (strR (.dat (.str a)) k) QA := p
theorem w_intR {α : Type} {a : Int} {k : Int → Res α} {QA : α → Hh → Prop} (p : evX X (k a) QA) : evX X (intR (.dat (.int a)) k) QA := p
theorem w_tupR {α : Type} {a : List D} {k : List D → Res α} {QA : α → Hh → Prop} (p : evX X (k a) QA) : evX X (tupR (.dat (.tup a)) k) QA := p
theorem w_newR {α : Type} {a : List D} {k : List D → Res α} {QA : α → Hh → Prop} (p : evX X (k a) QA) : evX X (newR (.new a) k) QA := p
theorem w_optR {α β : Type} {o : Option α} {a : α} {k : α → Res β} {QA : β → Hh → Prop} (e : o = some a) (p : evX X (k a) QA) : evX X (optR o k) QA := by rw [e]; exact p
theorem w_lenR {ds : List D} {a : Res R} (e : ds.length ≤ sizeLine) (p : evX X a Q) : evX X (lenR ds a) Q := by rw [lenR_ok e]; exact p
theorem w_dctR {ks : List Key} {ds : List D} (e : ks.length ≤ 15 ∧ ks.Nodup) (p : Q (.dat (.ref h.length)) (h ++ [.dct (ks.zip ds)])) : evX X (dctR ks ds h) Q := by rw [dctR_ok e]; exact p
theorem w_proN {l : List D} (p : Q (.dat (.ref h.length)) (h ++ [.lst l])) : evX X (proR (.new l) h) Q := p
theorem w_proD {d : D} (p : Q (.dat d) h) : evX X (proR (.dat d) h) Q := p
theorem rng_ok1 {j : Int} (h1 : -4611686018427387904 ≤ j) (h2 : j < 4611686018427387904) : rngOk j = true := by unfold rngOk; simp; omega
theorem rng_ok2 {i j : Int} (h1 : -4611686018427387904 ≤ i) (h2 : i < 4611686018427387904) (h3 : -4611686018427387904 ≤ j) (h4 : j < 4611686018427387904) : (rngOk i && rngOk j) = true := by rw [rng_ok1 h1 h2, rng_ok1 h3 h4]; rfl
theorem w_rng1R {j : Int} (e : rngOk j = true) (p : QL (rngL 0 j.toNat) h) : evX X (rng1R (.dat (.int j)) h) QL := by rw [rng1R_ok e]; exact p
theorem w_rngR {i j : Int} (e : (rngOk i && rngOk j) = true) (p : QL (rngL i (j - i).toNat) h) : evX X (rngR (.dat (.int i)) (.dat (.int j)) h) QL := by rw [rngR_ok e]; exact p
theorem w_rngD {i j : Int} (e : (rngOk i && rngOk j) = true) (p : QL (rng3L i (-1) (i - j).toNat) h) : evX X (rng3R (.dat (.int i)) (.dat (.int j)) (.dat (.int (-1))) h) QL := by
  unfold rng3R
  simp only [Bool.and_eq_true] at e
  have h1 := rngOk_ e.1
  have h2 := rngOk_ e.2
  have hr := RgC.neg h1.1 h1.2 h2.1 h2.2
  show evX X (if (-1 : Int) ≠ 0 ∧ (-1 : Int).natAbs < 1073741824 ∧ Builtin.Range.small i j (-1) = true ∧ 0 ≤ Builtin.Range.rangeSize i j (-1) then Res.ok (rng3L i (-1) (Builtin.Range.rangeSize i j (-1)).toNat) h else Res.bad) QL
  rw [if_pos ⟨hr.1, hr.2.1, hr.2.2.1, by rw [hr.2.2.2]; omega⟩, hr.2.2.2]
  exact p
theorem w_of {α : Type} {o : Option α} {a : α} {QA : α → Hh → Prop} (e : o = some a) (p : QA a h) : evX X (Res.of h o) QA := by rw [e]; exact p
theorem w_ofR {α β : Type} {o : Option α} {a : α} {k : α → β} {QA : β → Hh → Prop} (e : o = some a) (p : QA (k a) h) : evX X (ofR h o k) QA := by rw [e]; exact p
/-! operations on numbers -/
theorem w_addI {i j : Int} (p : Q (.dat (.int (i + j))) h) : evX X (Res.of h (binF h .add (.dat (.int i)) (.dat (.int j)))) Q := p
theorem w_subI {i j : Int} (p : Q (.dat (.int (i - j))) h) : evX X (Res.of h (binF h .sub (.dat (.int i)) (.dat (.int j)))) Q := p
theorem w_mulI {i j : Int} (e : (near i || near j) = true) (p : Q (.dat (.int (i * j))) h) : evX X (Res.of h (binF h .mul (.dat (.int i)) (.dat (.int j)))) Q := by
  show evX X (Res.of h ((mulI i j).map .dat)) Q
  unfold mulI; rw [if_pos e]; exact p
theorem w_fdivI {i j : Int} (e : 0 < j ∧ j < 1073741824) (p : Q (.dat (.int (i / j))) h) : evX X (Res.of h (binF h .fdiv (.dat (.int i)) (.dat (.int j)))) Q := by
  show evX X (Res.of h ((fdivI i j).map .dat)) Q
  unfold fdivI; rw [if_pos (by omega), Int.fdiv_eq_ediv_of_nonneg _ (by omega)]; exact p
theorem w_modI {i j : Int} (e : 0 < j) (p : Q (.dat (.int (i % j))) h) : evX X (Res.of h (binF h .mod (.dat (.int i)) (.dat (.int j)))) Q := by
  show evX X (Res.of h ((modI i j).map .dat)) Q
  unfold modI; rw [if_pos (by omega), Int.fmod_eq_emod_of_nonneg _ (by omega)]; exact p
theorem w_powI {i j : Int} (e : 0 ≤ j ∧ j ≤ 1000000 ∧ i.natAbs < 2 ^ 64) (p : Q (.dat (.int (i ^ j.toNat))) h) : evX X (Res.of h (binF h .pow (.dat (.int i)) (.dat (.int j)))) Q := by
  show evX X (Res.of h ((powI i j).map .dat)) Q
  unfold powI; rw [if_pos e]; exact p
theorem w_negI {i : Int} (p : Q (.dat (.int (-i))) h) : evX X (Res.of h (negF (.dat (.int i)))) Q := p
theorem w_ltI {i j : Int} (p : Q (.dat (.bl (decide (i < j)))) h) : evX X (ofR h (cmpF h .lt (.dat (.int i)) (.dat (.int j))) fun b => R.dat (.bl b)) Q := p
theorem w_leI {i j : Int} (p : Q (.dat (.bl (decide (i ≤ j)))) h) : evX X (ofR h (cmpF h .le (.dat (.int i)) (.dat (.int j))) fun b => R.dat (.bl b)) Q := p
theorem w_gtI {i j : Int} (p : Q (.dat (.bl (decide (j < i)))) h) : evX X (ofR h (cmpF h .gt (.dat (.int i)) (.dat (.int j))) fun b => R.dat (.bl b)) Q := p
theorem w_geI {i j : Int} (p : Q (.dat (.bl (decide (j ≤ i)))) h) : evX X (ofR h (cmpF h .ge (.dat (.int i)) (.dat (.int j))) fun b => R.dat (.bl b)) Q := p
theorem w_eqI {i j : Int} (p : Q (.dat (.bl (decide (i = j)))) h) : evX X (ofR h (cmpF h .eq (.dat (.int i)) (.dat (.int j))) fun b => R.dat (.bl b)) Q := by
  have e : cmpF h .eq (.dat (.int i)) (.dat (.int j)) = some (decide (i = j)) := by
    show (if SeqAt.shaped (.int i) && SeqAt.shaped (.int j) then some (PyData.eqv (.int i) (.int j)) else none) = _
    have : PyData.eqv (.int i) (.int j) = decide (i = j) := by simp [PyData.eqv]; try rfl
    rw [this]; rfl
  exact w_ofR e p
/-! statements -/
theorem v_asg {i : Nat} {e : E} (p : evX X (evalE C G e env h) fun x h1 => evX X (fzR x fun d => .ok (.nx (env.set i (.val d))) h1) QF) : evX X (execS C G (.asg i e) env h) QF := by
  rw [y_asg]; simpa only [ev_bind] using p
theorem v_own {i : Nat} {e : E} (p : evX X (evalE C G e env h) fun x h1 => evX X (newR x fun l => .ok (.nx (env.set i (.own l))) h1) QF) : evX X (execS C G (.own i e) env h) QF := by
  rw [y_own]; simpa only [ev_bind] using p
theorem v_any {i : Nat} {e : E} (p : evX X (evalE C G e env h) fun x h1 => evX X (anyR i env h1 x) QF) : evX X (execS C G (.any i e) env h) QF := by
  rw [y_any]; simpa only [ev_bind] using p
theorem v_anyN {i : Nat} {l : List D} (p : QF (.nx (env.set i (.own l))) h) : evX X (anyR i env h (.new l)) QF := p
theorem v_anyD {i : Nat} {d : D} (p : QF (.nx (env.set i (.val d))) h) : evX X (anyR i env h (.dat d)) QF := p
theorem v_asgs {is : List Nat} {e : E} (p : evX X (evalE C G e env h) fun x h1 => evX X (tupR x fun ds => optR (setVs env is ds) fun env' => .ok (.nx env') h1) QF) : evX X (execS C G (.asgs is e) env h) QF := by
  rw [y_asgs]; simpa only [ev_bind] using p
theorem v_setL {o k e : E} (p : evX X (evalE C G e env h) fun v h1 => evX X (fzR v fun d => (evalE C G o env h1).bind fun x h2 => (evalE C G k env h2).bind fun y h3 => setLR x y d env h3) QF) : evX X (execS C G (.setL o k e) env h) QF := by
  rw [y_setL]; simpa only [ev_bind] using p
theorem v_setD {o k e : E} (p : evX X (evalE C G e env h) fun v h1 => evX X (fzR v fun d => (evalE C G o env h1).bind fun x h2 => (evalE C G k env h2).bind fun y h3 => setDR x y d env h3) QF) : evX X (execS C G (.setD o k e) env h) QF := by
  rw [y_setD]; simpa only [ev_bind] using p
theorem v_setOwn {i : Nat} {k e : E} (p : evX X (evalE C G e env h) fun v h1 => evX X (fzR v fun d => ownR env[i]? fun l => (evalE C G k env h1).bind fun y h2 => setOR l i y d env h2) QF) : evX X (execS C G (.setOwn i k e) env h) QF := by
  rw [y_setOwn]; simpa only [ev_bind] using p
theorem v_app {i : Nat} {e : E} {l : List D} (q : env[i]? = some (.own l)) (p : evX X (evalE C G e env h) fun v h1 => evX X (fzR v fun d => appR l i d env h1) QF) : evX X (execS C G (.app i e) env h) QF := by
  rw [y_app, q, ownR_own]; simpa only [ev_bind] using p
theorem v_ext {i : Nat} {e : E} {l : List D} (q : env[i]? = some (.own l)) (p : evX X (evalE C G e env h) fun v h1 => evX X (extR l i v env h1) QF) : evX X (execS C G (.ext i e) env h) QF := by
  rw [y_ext, q, ownR_own]; simpa only [ev_bind] using p
theorem v_ins {i : Nat} {k e : E} {l : List D} (q : env[i]? = some (.own l)) (p : evX X (evalE C G k env h) fun y h1 => evX X (evalE C G e env h1) fun v h2 => evX X (insR l i y v env h2) QF) : evX X (execS C G (.ins i k e) env h) QF := by
  have e : execS C G (.ins i k e) env h = ownR env[i]? fun l => (evalE C G k env h).bind fun y h1 => (evalE C G e env h1).bind fun v h2 => insR l i y v env h2 := by
    conv => lhs; unfold execS
    cases env[i]? with
    | none => rfl
    | some s => cases s <;> rfl
  rw [e, q, ownR_own]; simpa only [ev_bind] using p
theorem v_expr {e : E} (p : evX X (evalE C G e env h) fun _ h1 => QF (.nx env) h1) : evX X (execS C G (.expr e) env h) QF := by
  rw [y_expr, ev_bind]; exact p
theorem v_ifs {c : E} {a b : Ss} (p : evX X (evalE C G c env h) fun x h1 => evX X (brR x (execSs C G a env h1) (execSs C G b env h1)) QF) : evX X (execS C G (.ifs c a b) env h) QF := by
  rw [y_ifs]; simpa only [ev_bind] using p
theorem v_for {t : Tg} {it : Iter} {b : Ss} (p : evX X (evalI C G it env h) fun ds h1 => evX X (forR C G t b ds env h1) QF) : evX X (execS C G (.for' t it b) env h) QF := by
  rw [y_for]; simpa only [ev_bind] using p
theorem v_whl {c : E} {b : Ss} (p : evX X (whlR C G c b whlMost env h) QF) : evX X (execS C G (.whl c b) env h) QF := by
  rw [y_whl]; exact p
theorem v_ret {e : E} (p : evX X (evalE C G e env h) fun x h1 => evX X (retR x h1) QF) : evX X (execS C G (.ret e) env h) QF := by
  rw [y_ret]; simpa only [ev_bind] using p
theorem v_retV {i : Nat} {l : List D} (q : env[i]? = some (.own l)) (p : QF (.rt (.new l)) h) : evX X (execS C G (.retV i) env h) QF := by
  rw [y_retV, q]; exact p
theorem v_retn (p : QF (.rt (.dat .non)) h) : evX X (execS C G .retn env h) QF := by rw [y_retn]; exact p
theorem v_pass (p : QF (.nx env) h) : evX X (execS C G .pass env h) QF := by rw [y_pass]; exact p
theorem v_raise {c : Str} {es : Es} (p : evX X (evalEs C G es env h) fun ds h1 => X ⟨c, ds⟩ h1) : evX X (execS C G (.raise c es) env h) QF := by
  conv => arg 2; unfold execS
  rw [ev_bind]; exact p
theorem v_brk (p : QF (.bk env) h) : evX X (execS C G .brk env h) QF := by rw [y_brk]; exact p
theorem v_cnt (p : QF (.ct env) h) : evX X (execS C G .cnt env h) QF := by rw [y_cnt]; exact p
theorem v_frz {i : Nat} {l : List D} (q : env[i]? = some (.own l)) (p : QF (.nx (env.set i (.val (.lst l)))) h) : evX X (execS C G (.frz i) env h) QF := by rw [y_frz, q]; exact p
theorem v_nil (p : QF (.nx env) h) : evX X (execSs C G .nil env h) QF := by rw [z_nil]; exact p
theorem v_cons {s : S} {ss : Ss} (p : evX X (execS C G s env h) (contFX X QF fun env' h' => execSs C G ss env' h')) : evX X (execSs C G (.cons s ss) env h) QF := by
  rw [z_cons, ev_seq]; exact p
theorem v_contN {k : Env' → Hh → Res Fl} (p : evX X (k env h) QF) : contFX X QF k (.nx env) h := p
theorem v_contR {k : Env' → Hh → Res Fl} {r : R} (p : QF (.rt r) h) : contFX X QF k (.rt r) h := p
theorem v_contB {k : Env' → Hh → Res Fl} (p : QF (.bk env) h) : contFX X QF k (.bk env) h := p
theorem v_contC {k : Env' → Hh → Res Fl} (p : QF (.ct env) h) : contFX X QF k (.ct env) h := p
theorem v_setLR {n : Nat} {i : Int} {l : List D} {j : Nat} {d : D} (e : h[n]? = some (.lst l)) (q : ixN l.length i = some j) (p : QF (.nx env) (h.set n (.lst (l.set j d)))) : evX X (setLR (.dat (.ref n)) (.dat (.int i)) d env h) QF := by rw [setLR_ok e q]; exact p
theorem v_setDR {n : Nat} {kd : D} {l : List (Key × D)} {kk : Key} {d : D} (e : h[n]? = some (.dct l)) (q : keyOf kd = some kk) (z : l.length < sizeLine) (p : QF (.nx env) (h.set n (.dct (dPut l kk d)))) : evX X (setDR (.dat (.ref n)) (.dat kd) d env h) QF := by rw [setDR_ok e q z]; exact p
theorem v_ownR {i : Nat} {l : List D} {k : List D → Res Fl} (q : env[i]? = some (.own l)) (p : evX X (k l) QF) : evX X (ownR env[i]? k) QF := by rw [q]; exact p
theorem v_setOR {l : List D} {i j : Nat} {z : Int} {d : D} (q : ixN l.length z = some j) (p : QF (.nx (env.set i (.own (l.set j d)))) h) : evX X (setOR l i (.dat (.int z)) d env h) QF := by rw [setOR_ok q]; exact p
theorem v_appR {l : List D} {i : Nat} {d : D} (z : l.length < sizeLine) (p : QF (.nx (env.set i (.own (l ++ [d])))) h) : evX X (appR l i d env h) QF := by rw [appR_ok z]; exact p
theorem v_retD {d : D} (p : QF (.rt (.dat d)) h) : evX X (retR (.dat d) h) QF := p
theorem v_retN {d : List D} (p : QF (.rt (.new d)) h) : evX X (retR (.new d) h) QF := p
theorem v_endR {r : R} (p : Q r h) : endQ Q (.rt r) h := p
theorem v_endN (p : Q (.dat .non) h) : endQ Q (.nx env) h := p
theorem v_run {T : Tab} {G : Str → Option D} {n : Nat} {f : Str} {d : Fn} (e : T f = some d) {ds : List D} (hl : ds.length = d.pars) (p : evX X (execSs (run T G n) G d.body (d.env ds) h) (endQ Q)) : evX X (run T G (n + 1) f ds h) Q := by
  rw [run_s e ds h hl, ev_rt]; exact p
theorem w_compG {c e : E} {QC : Option D → Hh → Prop} (p : evX X (evalE C G c env h) fun b h3 => evX X (brR b ((evalE C G e env h3).bind fun x h4 => fzR x fun y => .ok (some y) h4) (.ok none h3)) QC) : evX X (compG C G c e env h) QC := by
  rw [x_compG]; simpa only [ev_bind] using p
/-- an answer that is known -/
theorem ev_eq {α : Type} {r : Res α} {a : α} {h' : Hh} (p : evX noX r fun x g => x = a ∧ g = h') : r = .ok a h' := by
  cases r with
  | ok x g => obtain ⟨rfl, rfl⟩ := p; rfl
  | _ => exact p.elim
theorem ev_of {α : Type} {r : Res α} {a : α} {h' : Hh} {QA : α → Hh → Prop} (e : r = .ok a h') (p : QA a h') : evX X r QA := by rw [e]; exact p
end
/-- nothing raised -/
abbrev ev {α : Type} (r : Res α) (Q : α → Hh → Prop) : Prop := evX noX r Q
end Mi
/-! Mi12: the laws' drawing: mixed, folded, draw, begun. -/
namespace Mi
open PySem PySem.Spec PyProof.Rows L2
variable {X : Exc → Hh → Prop}

theorem near_iff {i : Int} : near i = true ↔ -(2 ^ 64) < i ∧ i < 2 ^ 64 := by unfold near; simp
theorem near_r {i j : Int} (h : near j = true) : (near i || near j) = true := by rw [h, Bool.or_true]
theorem near_l {i j : Int} (h : near i = true) : (near i || near j) = true := by rw [h, Bool.true_or]
theorem near_ro {i j : Int} (h1 : -(2 ^ 64) < j) (h2 : j < 2 ^ 64) : (near i || near j) = true := near_r (near_iff.mpr ⟨h1, h2⟩)
theorem near_lo {i j : Int} (h1 : -(2 ^ 64) < i) (h2 : i < 2 ^ 64) : (near i || near j) = true := near_l (near_iff.mpr ⟨h1, h2⟩)
theorem w_dgetK {h : Hh} {n : Nat} {k : Str} {l : List (Key × D)} {d : D} {Q : R → Hh → Prop} (e : h[n]? = some (.dct l)) (q : dLook l (.inr k) = some d) (p : Q (.dat d) h) : evX X (ofR h (dgetF h (.dat (.ref n)) (.dat (.str k))) .dat) Q := by
  refine w_ofR ?_ p
  show (match dctOf h (.dat (.ref n)), (R.dat (.str k)) with
    | some l, .dat k => (keyOf k).bind fun j => dLook l j
    | _, _ => none) = _
  have : dctOf h (.dat (.ref n)) = some l := by simp only [dctOf, e]
  rw [this]
  exact q
end Mi
local macro_rules | `(tactic| walk_at "mi") => `(tactic| fail)
local macro_rules | `(tactic| walk_at "mi") => `(tactic| ((with_reducible refine' Mi.w_dgetK ?e ?q ?_); (case e => first | assumption | rfl); (case q => rfl); (try dsimp only)))
local macro_rules | `(tactic| walk_at "mi") => `(tactic| ((with_reducible refine' Mi.w_varO ?e ?_); case e => rfl))
local macro_rules | `(tactic| walk_at "mi") => `(tactic| (with_reducible refine Mi.w_compG ?_))
local macro_rules | `(tactic| walk_at "mi") => `(tactic| (with_reducible refine Mi.v_endN ?_))
local macro_rules | `(tactic| walk_at "mi") => `(tactic| (with_reducible refine Mi.v_retN ?_))
local macro_rules | `(tactic| walk_at "mi") => `(tactic| (with_reducible refine Mi.v_contC ?_))
local macro_rules | `(tactic| walk_at "mi") => `(tactic| (with_reducible refine Mi.v_contB ?_))
local macro_rules | `(tactic| walk_at "mi") => `(tactic| ((with_reducible refine' Mi.v_frz ?e ?_); case e => rfl))
local macro_rules | `(tactic| walk_at "mi") => `(tactic| (with_reducible refine Mi.v_cnt ?_))
local macro_rules | `(tactic| walk_at "mi") => `(tactic| (with_reducible refine Mi.v_brk ?_))
local macro_rules | `(tactic| walk_at "mi") => `(tactic| (with_reducible refine Mi.v_pass ?_))
local macro_rules | `(tactic| walk_at "mi") => `(tactic| (with_reducible refine Mi.v_retn ?_))
local macro_rules | `(tactic| walk_at "mi") => `(tactic| ((with_reducible refine' Mi.v_retV ?e ?_); case e => rfl))
local macro_rules | `(tactic| walk_at "mi") => `(tactic| (with_reducible refine Mi.v_whl ?_))
local macro_rules | `(tactic| walk_at "mi") => `(tactic| (with_reducible refine Mi.v_for ?_))
local macro_rules | `(tactic| walk_at "mi") => `(tactic| (with_reducible refine Mi.v_expr ?_))
local macro_rules | `(tactic| walk_at "mi") => `(tactic| ((with_reducible refine' Mi.v_ext ?e ?_); case e => rfl))
local macro_rules | `(tactic| walk_at "mi") => `(tactic| ((with_reducible refine' Mi.v_app ?e ?_); case e => rfl))
local macro_rules | `(tactic| walk_at "mi") => `(tactic| ((with_reducible refine' Mi.v_ownR ?e ?_); case e => rfl))
local macro_rules | `(tactic| walk_at "mi") => `(tactic| (with_reducible refine Mi.v_setOwn ?_))
local macro_rules | `(tactic| walk_at "mi") => `(tactic| (with_reducible refine Mi.v_setD ?_))
local macro_rules | `(tactic| walk_at "mi") => `(tactic| (with_reducible refine Mi.v_setL ?_))
local macro_rules | `(tactic| walk_at "mi") => `(tactic| (with_reducible refine Mi.v_asgs ?_))
local macro_rules | `(tactic| walk_at "mi") => `(tactic| (with_reducible refine Mi.w_blt1 ?_))
local macro_rules | `(tactic| walk_at "mi") => `(tactic| (with_reducible refine Mi.v_anyD ?_))
local macro_rules | `(tactic| walk_at "mi") => `(tactic| (with_reducible refine Mi.v_anyN ?_))
local macro_rules | `(tactic| walk_at "mi") => `(tactic| (with_reducible refine Mi.v_any ?_))
local macro_rules | `(tactic| walk_at "mi") => `(tactic| (with_reducible refine Mi.v_own ?_))
local macro_rules | `(tactic| walk_at "mi") => `(tactic| ((with_reducible refine' Mi.w_dctR ?e ?_); case e => decide))
local macro_rules | `(tactic| walk_at "mi") => `(tactic| (with_reducible refine Mi.w_dct ?_))
local macro_rules | `(tactic| walk_at "mi") => `(tactic| (with_reducible refine Mi.w_proD ?_))
local macro_rules | `(tactic| walk_at "mi") => `(tactic| (with_reducible refine Mi.w_proN ?_))
local macro_rules | `(tactic| walk_at "mi") => `(tactic| (with_reducible refine Mi.w_promo ?_))
local macro_rules | `(tactic| walk_at "mi") => `(tactic| ((with_reducible refine' Mi.w_rngD ?e ?_); case e => exact Mi.rng_ok2 (by omega) (by omega) (by omega) (by omega)))
local macro_rules | `(tactic| walk_at "mi") => `(tactic| ((with_reducible refine' Mi.w_rngR ?e ?_); case e => exact Mi.rng_ok2 (by omega) (by omega) (by omega) (by omega)))
local macro_rules | `(tactic| walk_at "mi") => `(tactic| ((with_reducible refine' Mi.w_rng1R ?e ?_); case e => exact Mi.rng_ok1 (by omega) (by omega)))
local macro_rules | `(tactic| walk_at "mi") => `(tactic| (with_reducible refine Mi.w_enum ?_))
local macro_rules | `(tactic| walk_at "mi") => `(tactic| (with_reducible refine Mi.w_rng3 ?_))
local macro_rules | `(tactic| walk_at "mi") => `(tactic| (with_reducible refine Mi.w_rng2 ?_))
local macro_rules | `(tactic| walk_at "mi") => `(tactic| (with_reducible refine Mi.w_rng1 ?_))
local macro_rules | `(tactic| walk_at "mi") => `(tactic| (with_reducible refine Mi.w_seq ?_))
local macro_rules | `(tactic| walk_at "mi") => `(tactic| (with_reducible refine Mi.w_comp ?_))
local macro_rules | `(tactic| walk_at "mi") => `(tactic| (with_reducible refine Mi.w_mth ?_))
local macro_rules | `(tactic| walk_at "mi") => `(tactic| ((with_reducible refine' Mi.w_optR ?e ?_); case e => rfl))
local macro_rules | `(tactic| walk_at "mi") => `(tactic| (with_reducible refine Mi.w_newR ?_))
local macro_rules | `(tactic| walk_at "mi") => `(tactic| (with_reducible refine Mi.w_tupR ?_))
local macro_rules | `(tactic| walk_at "mi") => `(tactic| (with_reducible refine Mi.w_strR ?_))
local macro_rules | `(tactic| walk_at "mi") => `(tactic| (with_reducible refine Mi.w_intR ?_))
local macro_rules | `(tactic| walk_at "mi") => `(tactic| (with_reducible refine Mi.w_opart ?_))
local macro_rules | `(tactic| walk_at "mi") => `(tactic| (with_reducible refine Mi.w_ono ?_))
local macro_rules | `(tactic| walk_at "mi") => `(tactic| (with_reducible refine Mi.w_sl ?_))
local macro_rules | `(tactic| walk_at "mi") => `(tactic| ((with_reducible refine' Mi.w_glo ?e ?_); case e => (first | assumption | rfl)))
local macro_rules | `(tactic| walk_at "mi") => `(tactic| (with_reducible refine Mi.w_fzN ?_))
local macro_rules | `(tactic| walk_at "mi") => `(tactic| ((with_reducible refine' Mi.w_lenR ?e ?_); case e => (first | decide | (simp only [List.length_cons, List.length_nil, Nat.zero_add, Nat.reduceAdd]; decide))))
local macro_rules | `(tactic| walk_at "mi") => `(tactic| (with_reducible refine Mi.w_lst ?_))
local macro_rules | `(tactic| walk_at "mi") => `(tactic| (with_reducible refine Mi.w_tup ?_))
local macro_rules | `(tactic| walk_at "mi") => `(tactic| (with_reducible refine Mi.w_negI ?_))
local macro_rules | `(tactic| walk_at "mi") => `(tactic| (with_reducible refine Mi.w_neg ?_))
local macro_rules | `(tactic| walk_at "mi") => `(tactic| ((with_reducible refine' Mi.w_powI ?e ?_); case e => decide))
local macro_rules | `(tactic| walk_at "mi") => `(tactic| ((with_reducible refine' Mi.w_mulI ?e ?_); case e => (first | exact Mi.near_r (by decide) | exact Mi.near_l (by decide) | exact Mi.near_ro (by omega) (by omega) | exact Mi.near_lo (by omega) (by omega))))
local macro_rules | `(tactic| walk_at "mi") => `(tactic| ((with_reducible refine' Mi.w_fdivI ?e ?_); case e => (first | decide | omega)))
local macro_rules | `(tactic| walk_at "mi") => `(tactic| ((with_reducible refine' Mi.w_modI ?e ?_); case e => (first | decide | omega)))
local macro_rules | `(tactic| walk_at "mi") => `(tactic| (with_reducible refine Mi.w_dget ?_))
local macro_rules | `(tactic| walk_at "mi") => `(tactic| (with_reducible refine Mi.w_ix ?_))
local macro_rules | `(tactic| walk_at "mi") => `(tactic| (with_reducible refine Mi.w_blt ?_))
local macro_rules | `(tactic| walk_at "mi") => `(tactic| (with_reducible refine Mi.w_isi ?_))
local macro_rules | `(tactic| walk_at "mi") => `(tactic| (with_reducible refine Mi.w_eqI ?_))
local macro_rules | `(tactic| walk_at "mi") => `(tactic| (with_reducible refine Mi.w_geI ?_))
local macro_rules | `(tactic| walk_at "mi") => `(tactic| (with_reducible refine Mi.w_gtI ?_))
local macro_rules | `(tactic| walk_at "mi") => `(tactic| (with_reducible refine Mi.w_leI ?_))
local macro_rules | `(tactic| walk_at "mi") => `(tactic| (with_reducible refine Mi.w_ltI ?_))
local macro_rules | `(tactic| walk_at "mi") => `(tactic| (with_reducible refine Mi.w_chain ?_))
local macro_rules | `(tactic| walk_at "mi") => `(tactic| (with_reducible refine Mi.w_cmp ?_))
local macro_rules | `(tactic| walk_at "mi") => `(tactic| (with_reducible refine Mi.w_ite ?_))
local macro_rules | `(tactic| walk_at "mi") => `(tactic| (with_reducible refine Mi.w_notR ?_))
local macro_rules | `(tactic| walk_at "mi") => `(tactic| (with_reducible refine Mi.w_not ?_))
local macro_rules | `(tactic| walk_at "mi") => `(tactic| (with_reducible refine Mi.w_or ?_))
local macro_rules | `(tactic| walk_at "mi") => `(tactic| (with_reducible refine Mi.w_and ?_))
local macro_rules | `(tactic| walk_at "mi") => `(tactic| (with_reducible refine Mi.w_brf ?_))
local macro_rules | `(tactic| walk_at "mi") => `(tactic| (with_reducible refine Mi.w_brt ?_))
local macro_rules | `(tactic| walk_at "mi") => `(tactic| (with_reducible refine Mi.v_ifs ?_))
local macro_rules | `(tactic| walk_at "mi") => `(tactic| (with_reducible refine Mi.v_nil ?_))
local macro_rules | `(tactic| walk_at "mi") => `(tactic| (with_reducible refine Mi.v_endR ?_))
local macro_rules | `(tactic| walk_at "mi") => `(tactic| (with_reducible refine Mi.v_retD ?_))
local macro_rules | `(tactic| walk_at "mi") => `(tactic| (with_reducible refine Mi.v_ret ?_))
local macro_rules | `(tactic| walk_at "mi") => `(tactic| (with_reducible refine Mi.v_asg ?_))
local macro_rules | `(tactic| walk_at "mi") => `(tactic| (with_reducible refine Mi.v_contR ?_))
local macro_rules | `(tactic| walk_at "mi") => `(tactic| ((with_reducible refine Mi.v_contN ?_); try simp only [Mi.setV, List.set_cons_succ, List.set_cons_zero]))
local macro_rules | `(tactic| walk_at "mi") => `(tactic| (with_reducible refine Mi.v_cons ?_))
local macro_rules | `(tactic| walk_at "mi") => `(tactic| (with_reducible refine Mi.w_call ?_))
local macro_rules | `(tactic| walk_at "mi") => `(tactic| (with_reducible refine Mi.w_nil ?_))
local macro_rules | `(tactic| walk_at "mi") => `(tactic| (with_reducible refine Mi.w_cons ?_))
local macro_rules | `(tactic| walk_at "mi") => `(tactic| (with_reducible refine Mi.w_subI ?_))
local macro_rules | `(tactic| walk_at "mi") => `(tactic| (with_reducible refine Mi.w_addI ?_))
local macro_rules | `(tactic| walk_at "mi") => `(tactic| (with_reducible refine Mi.w_ok ?_))
local macro_rules | `(tactic| walk_at "mi") => `(tactic| (with_reducible refine Mi.w_bind ?_))
local macro_rules | `(tactic| walk_at "mi") => `(tactic| (with_reducible refine Mi.w_fzD ?_))
local macro_rules | `(tactic| walk_at "mi") => `(tactic| (with_reducible refine Mi.w_bin ?_))
local macro_rules | `(tactic| walk_at "mi") => `(tactic| ((with_reducible refine' Mi.w_var ?e ?_); case e => rfl))
local macro_rules | `(tactic| walk_at "mi") => `(tactic| (with_reducible refine Mi.w_con ?_))
namespace Mi
open PySem PySem.Spec PyProof.Rows L2
variable {X : Exc → Hh → Prop}
def b_mixed : Ss := (.cons (.asg 2 (.bin .add (.bin .add (.bin .mod (.bin .mul (.bin .mul (.var 0) (.bin .add (.con (.int 1)) (.bin .mul (.con (.int 2)) (.var 1)))) (.con (.int 48271))) (.con (.int 2147483647))) (.bin .mul (.bin .mul (.con (.int 7919)) (.var 1)) (.var 1))) (.bin .mul (.con (.int 104729)) (.var 1)))) (.cons (.ret (.bin .fdiv (.bin .mod (.bin .mul (.var 2) (.con (.int 69621))) (.con (.int 2147483629))) (.con (.int 7)))) .nil))
def f_mixed : Fn := ⟨2, 3, b_mixed⟩
section
variable {T : Tab} {G : Str → Option D} {n : Nat} {h : Hh}
theorem mixed_ok (hT : T "_law_mixed" = some f_mixed) {c k : Int} (h1 : -(2 ^ 62) < k) (h2 : k < 2 ^ 62) : evX X (run T G (n + 1) "_law_mixed" [.int c, .int k] h) fun r h' => h' = h ∧ ∃ x : Int, r = .dat (.int x) ∧ 0 ≤ x ∧ x < 2 ^ 31 := by
  refine v_run hT rfl ?_
  unfold f_mixed b_mixed
  simp only [Fn.env, List.map_cons, List.map_nil, Nat.reduceSub, List.replicate_succ, List.replicate_zero, List.cons_append, List.nil_append]
  repeat walk_at "mi"
  refine ⟨rfl, _, rfl, ?_, ?_⟩
  · have := Int.emod_nonneg (((c * (1 + 2 * k) * 48271) % 2147483647 + 7919 * k * k + 104729 * k) * 69621) (show (2147483629 : Int) ≠ 0 by decide)
    omega
  · have := Int.emod_lt_of_pos (((c * (1 + 2 * k) * 48271) % 2147483647 + 7919 * k * k + 104729 * k) * 69621) (show (0 : Int) < 2147483629 by decide)
    omega
end
/-! ### lists of numbers -/
theorem pyAll_ints : ∀ ls : List Int, pyAll (ls.map .int) = some (ls.map .int)
  | [] => by simp [pyAll]
  | x :: xs => by simp [pyAll, D.py, pyAll_ints xs]
theorem shaped_ints (ls : List Int) : SeqAt.shaped (.list (ls.map .int)) = true := by
  have h1 : ∀ l : List Int, PyData.canLayAll0 (l.map .int) = true := by
    intro l
    induction l with
    | nil => rfl
    | cons x xs ih => simpa [PyData.canLayAll0, PyData.canLay0] using ih
  have h2 : ∀ l : List Int, PyData.depthAll (l.map .int) = 0 := by
    intro l
    induction l with
    | nil => rfl
    | cons x xs ih => simp [PyData.depthAll, PyData.depth, ih]
  unfold SeqAt.shaped
  simp [PyData.canLay0, PyData.depth, h1, h2]
theorem atI_in {α : Type} {l : List α} {i : Int} (h0 : 0 ≤ i) (h1 : i.toNat < l.length) : atI l i = some l[i.toNat] := by
  have : ixN l.length i = some i.toNat := by unfold ixN; rw [if_pos h0, if_pos (by omega)]
  unfold atI
  rw [this]
  exact List.getElem?_eq_getElem h1
theorem ixN_in {n : Nat} {i : Int} (h0 : 0 ≤ i) (h1 : i < n) : ixN n i = some i.toNat := by unfold ixN; rw [if_pos h0, if_pos h1]
theorem w_ixL {h : Hh} {n : Nat} {l : List D} {i : Int} {d : D} {Q : R → Hh → Prop} (e : h[n]? = some (.lst l)) (q : atI l i = some d) (p : Q (.dat d) h) : evX X (ofR h (ixF h (.dat (.ref n)) (.dat (.int i))) .dat) Q := by
  refine w_ofR ?_ p
  show (sv h (.dat (.ref n))).bind (fun l => atI l i) = some d
  have : sv h (.dat (.ref n)) = some l := by simp only [sv, lv, e]
  rw [this]
  exact q
theorem w_lenL {h : Hh} {n : Nat} {l : List D} {Q : R → Hh → Prop} (e : h[n]? = some (.lst l)) (p : Q (.dat (.int l.length)) h) : evX X (Res.of h (bltF h .len [.ref n])) Q := by
  refine w_of ?_ p
  show (sv h (.dat (.ref n))).map (fun l => R.dat (.int l.length)) = _
  have : sv h (.dat (.ref n)) = some l := by simp only [sv, lv, e]
  rw [this]
  rfl
/-- the drawing state: its dict at m, its cells at ci, what is left at li; drawn at most b times -/
def drO (ci li : Nat) (a : Int) : O := .dct [(.inr "cells", .ref ci), (.inr "left", .ref li), (.inr "at", .int a)]
structure Dr (h : Hh) (m ci li : Nat) (b : Int) : Prop where
  ex : ∃ (cs ls : List Int) (a : Int), h[m]? = some (drO ci li a) ∧ h[ci]? = some (.lst (cs.map .int)) ∧ cs.length = 64 ∧ (∀ c ∈ cs, 0 ≤ c ∧ c < 2 ^ 31) ∧ h[li]? = some (.lst (ls.map .int)) ∧ (∀ x ∈ ls, 0 ≤ x) ∧ 0 ≤ a ∧ a ≤ b
  cm : ci ≠ m
  lm : li ≠ m
  cl : ci ≠ li
/-- all else stays -/
def Kp (m li : Nat) (h h' : Hh) : Prop := h.length ≤ h'.length ∧ ∀ j, j < h.length → j ≠ m → j ≠ li → h'[j]? = h[j]?
theorem Kp.refl {m li : Nat} {h : Hh} : Kp m li h h := ⟨Nat.le_refl _, fun _ _ _ _ => rfl⟩
theorem Kp.trans {m li : Nat} {h h1 h2 : Hh} (a : Kp m li h h1) (b : Kp m li h1 h2) : Kp m li h h2 := ⟨Nat.le_trans a.1 b.1, fun j hj n1 n2 => by rw [b.2 j (Nat.lt_of_lt_of_le hj a.1) n1 n2, a.2 j hj n1 n2]⟩
theorem Kp.set1 {m li : Nat} {h : Hh} {o : O} : Kp m li h (h.set m o) := ⟨by simp, fun j _ n1 _ => List.getElem?_set_ne (Ne.symm n1)⟩
theorem Kp.set2 {m li : Nat} {h : Hh} {o : O} : Kp m li h (h.set li o) := ⟨by simp, fun j _ _ n2 => List.getElem?_set_ne (Ne.symm n2)⟩
theorem Dr.mono {h : Hh} {m ci li : Nat} {b b' : Int} (d : Dr h m ci li b) (hb : b ≤ b') : Dr h m ci li b' := by
  obtain ⟨⟨cs, ls, a, q1, q2, q3, q4, q5, q6, q7, q8⟩, z1, z2, z3⟩ := d
  exact ⟨⟨cs, ls, a, q1, q2, q3, q4, q5, q6, q7, by omega⟩, z1, z2, z3⟩
theorem get_set_self {h : Hh} {m : Nat} {o o' : O} (e : h[m]? = some o) : (h.set m o')[m]? = some o' := List.getElem?_set_self (List.getElem?_eq_some_iff.mp e).1
theorem put_at {ci li : Nat} {a : Int} {d : D} : dPut [(.inr "cells", .ref ci), (.inr "left", .ref li), (.inr "at", .int a)] (.inr "at") d = [(.inr "cells", .ref ci), (.inr "left", .ref li), (.inr "at", d)] := by rfl
theorem ne_left {h : Hh} {li : Nat} {ls : List Int} {Q : R → Hh → Prop} (e : h[li]? = some (.lst (ls.map .int))) (p : Q (.dat (.bl (decide (ls ≠ [])))) h) : evX X (ofR h (cmpF h .ne (.dat (.ref li)) (.new [])) fun b => R.dat (.bl b)) Q := by
  have q : eqF h (.dat (.ref li)) (.new []) = some (decide (ls = [])) := by
    unfold eqF
    have e1 : (R.dat (.ref li)).pyH h = some (.list (ls.map .int)) := by simp only [R.pyH, e, pyAll_ints]; rfl
    have e2 : (R.new []).pyH h = some (.list []) := rfl
    show (match (R.dat (.ref li)).pyH h, (R.new []).pyH h with
      | some a, some b => if SeqAt.shaped a && SeqAt.shaped b then some (PyData.eqv a b) else none
      | _, _ => none) = _
    rw [e1, e2]
    show (if (SeqAt.shaped _ && SeqAt.shaped (.list [])) = true then _ else _) = _
    rw [shaped_ints, if_pos (by rfl)]
    cases ls <;> rfl
  refine w_ofR (a := decide (ls ≠ [])) ?_ p
  show (eqF h _ _).map (!·) = _
  rw [q]
  simp
def b_draw : Ss := (.cons (.asg 2 (.dget (.var 0) (.con (.str "at")))) (.cons (.setD (.var 0) (.con (.str "at")) (.bin .add (.var 2) (.con (.int 1)))) (.cons (.ifs (.cmp .ne (.dget (.var 0) (.con (.str "left"))) (.lst .nil)) (.cons (.asg 3 (.bin .mod (.var 2) (.blt .len (.cons (.dget (.var 0) (.con (.str "left"))) .nil)))) (.cons (.asg 4 (.ix (.dget (.var 0) (.con (.str "left"))) (.var 3))) (.cons (.ifs (.cmp .gt (.var 4) (.con (.int 0))) (.cons (.setL (.dget (.var 0) (.con (.str "left"))) (.var 3) (.bin .fdiv (.var 4) (.var 1))) (.cons (.ret (.bin .mod (.var 4) (.var 1))) .nil)) .nil) .nil))) .nil) (.cons (.ret (.bin .mod (.call "_law_mixed" (.cons (.call "_law_mixed" (.cons (.bin .add (.ix (.dget (.var 0) (.con (.str "cells"))) (.bin .mod (.var 2) (.con (.int 64)))) (.bin .mul (.con (.int 31)) (.bin .fdiv (.var 2) (.con (.int 64))))) (.cons (.var 2) .nil))) (.cons (.bin .add (.var 2) (.con (.int 7))) .nil))) (.var 1))) .nil))))
def f_draw : Fn := ⟨2, 5, b_draw⟩
section
variable {T : Tab} {G : Str → Option D} {n : Nat} {h : Hh}
theorem draw_tail (hM : T "_law_mixed" = some f_mixed) {m ci li : Nat} {b a many : Int} {s3 s4 : Slot} (d : Dr h m ci li b) (hb : b < 2 ^ 60) (hm : 0 < many) (ha0 : 0 ≤ a) (ha1 : a ≤ b) :
    evX X (execSs (run T G (n + 1)) G (.cons (.ret (.bin .mod (.call "_law_mixed" (.cons (.call "_law_mixed" (.cons (.bin .add (.ix (.dget (.var 0) (.con (.str "cells"))) (.bin .mod (.var 2) (.con (.int 64)))) (.bin .mul (.con (.int 31)) (.bin .fdiv (.var 2) (.con (.int 64))))) (.cons (.var 2) .nil))) (.cons (.bin .add (.var 2) (.con (.int 7))) .nil))) (.var 1))) .nil)
      [.val (.ref m), .val (.int many), .val (.int a), s3, s4] h) (endQ fun r h' => ∃ x : Int, r = .dat (.int x) ∧ 0 ≤ x ∧ x < many ∧ h' = h) := by
  obtain ⟨⟨cs, ls, a0, q1, q2, q3, q4, q5, q6, q7, q8⟩, z1, z2, z3⟩ := d
  repeat walk_at "mi"
  have hi : (a % 64).toNat < cs.length := by omega
  refine w_ixL q2 (atI_in (by omega) (by simpa using hi)) ?_
  rw [List.getElem_map]
  repeat walk_at "mi"
  refine ev_mono (mixed_ok hM (by omega) (by omega)) ?_
  rintro r h1 ⟨rfl, x, rfl, x0, x1⟩
  repeat walk_at "mi"
  refine ev_mono (mixed_ok hM (by omega) (by omega)) ?_
  rintro r h1 ⟨rfl, y, rfl, y0, y1⟩
  repeat walk_at "mi"
  exact ⟨_, rfl, Int.emod_nonneg _ (by omega), Int.emod_lt_of_pos _ hm, rfl⟩
theorem draw_ok (hM : T "_law_mixed" = some f_mixed) (hT : T "_law_draw" = some f_draw) {m ci li : Nat} {b many : Int} (d : Dr h m ci li b) (hb : b < 2 ^ 59) (hm : 0 < many) (hm2 : many < 2 ^ 30) :
    evX X (run T G (n + 2) "_law_draw" [.ref m, .int many] h) fun r h' => ∃ x : Int, r = .dat (.int x) ∧ 0 ≤ x ∧ x < many ∧ Dr h' m ci li (b + 1) ∧ Kp m li h h' := by
  have d0 := d
  obtain ⟨⟨cs, ls, a, q1, q2, q3, q4, q5, q6, q7, q8⟩, z1, z2, z3⟩ := d
  refine v_run hT rfl ?_
  unfold f_draw b_draw
  simp only [Fn.env, List.map_cons, List.map_nil, Nat.reduceSub, List.replicate_succ, List.replicate_zero, List.cons_append, List.nil_append]
  unfold drO at q1
  repeat walk_at "mi"
  refine v_setDR q1 rfl (show 3 < sizeLine by decide) ?_
  rw [put_at]
  have g1 := get_set_self (o' := drO ci li (a + 1)) q1
  have g2 : (h.set m (drO ci li (a + 1)))[ci]? = _ := (List.getElem?_set_ne (Ne.symm z1)).trans q2
  have g3 : (h.set m (drO ci li (a + 1)))[li]? = _ := (List.getElem?_set_ne (Ne.symm z2)).trans q5
  have d1 : Dr (h.set m (drO ci li (a + 1))) m ci li (b + 1) := ⟨⟨cs, ls, a + 1, g1, g2, q3, q4, g3, q6, by omega, by omega⟩, z1, z2, z3⟩
  have k1 : Kp m li h (h.set m (drO ci li (a + 1))) := Kp.set1
  change contFX X _ _ (.nx _) (h.set m (drO ci li (a + 1)))
  generalize h.set m (drO ci li (a + 1)) = hh at *
  unfold drO at g1
  repeat walk_at "mi"
  refine ne_left g3 ?_
  have tail : ∀ {s3 s4 : Slot}, evX X (execSs (run T G (n + 1)) G (.cons (.ret (.bin .mod (.call "_law_mixed" (.cons (.call "_law_mixed" (.cons (.bin .add (.ix (.dget (.var 0) (.con (.str "cells"))) (.bin .mod (.var 2) (.con (.int 64)))) (.bin .mul (.con (.int 31)) (.bin .fdiv (.var 2) (.con (.int 64))))) (.cons (.var 2) .nil))) (.cons (.bin .add (.var 2) (.con (.int 7))) .nil))) (.var 1))) .nil)
      [.val (.ref m), .val (.int many), .val (.int a), s3, s4] hh) (endQ fun r h' => ∃ x : Int, r = .dat (.int x) ∧ 0 ≤ x ∧ x < many ∧ Dr h' m ci li (b + 1) ∧ Kp m li h h') := by
    intro s3 s4
    refine ev_mono (draw_tail hM d1 (by omega) hm q7 (by omega)) ?_
    rintro fl h' z
    cases fl with
    | rt r =>
      obtain ⟨x, e1, e2, e3, rfl⟩ := z
      exact ⟨x, e1, e2, e3, d1, k1⟩
    | nx e => obtain ⟨x, e1, _⟩ := z; cases e1
    | bk e => exact z
    | ct e => exact z
  by_cases hl : ls = []
  · rw [show decide (ls ≠ []) = false by simpa using hl]
    iterate 3 walk_at "mi"
    exact tail
  · rw [show decide (ls ≠ []) = true by simpa using hl]
    repeat walk_at "mi"
    refine w_lenL g3 ?_
    have hp : 0 < ls.length := List.length_pos_iff.mpr hl
    rw [List.length_map]
    repeat walk_at "mi"
    have hi : (a % (ls.length : Int)).toNat < ls.length := by
      have := Int.emod_lt_of_pos a (show (0 : Int) < ls.length by omega)
      omega
    have hi0 : 0 ≤ a % (ls.length : Int) := Int.emod_nonneg _ (by omega)
    refine w_ixL g3 (atI_in hi0 (by simpa using hi)) ?_
    rw [List.getElem_map]
    have hx := q6 _ (List.getElem_mem hi)
    generalize ls[(a % (ls.length : Int)).toNat] = x at hx
    repeat walk_at "mi"
    refine ev_br (fun hx0 => ?_) (fun hx0 => ?_)
    · repeat walk_at "mi"
      refine v_setLR g3 (ixN_in hi0 (by simp; omega)) ?_
      repeat walk_at "mi"
      refine ⟨_, rfl, Int.emod_nonneg _ (by omega), Int.emod_lt_of_pos _ hm, ?_, k1.trans Kp.set2⟩
      refine ⟨⟨cs, ls.set (a % (ls.length : Int)).toNat (x / many), a + 1, ?_, ?_, q3, q4, ?_, ?_, by omega, by omega⟩, z1, z2, z3⟩
      · rw [List.getElem?_set_ne z2]; exact g1
      · rw [List.getElem?_set_ne (Ne.symm z3)]; exact g2
      · rw [get_set_self g3, List.map_set]
      · intro y hy
        rcases List.mem_or_eq_of_mem_set hy with hy | rfl
        · exact q6 y hy
        · exact Int.ediv_nonneg hx (by omega)
    · iterate 4 walk_at "mi"
      exact tail
end
/-! ### folded -/
def b_folded : Ss := (.cons (.own 1 (.comp [2] (.nm 2) (.rng1 (.con (.int 64))) (.con (.bl true)) (.bin .add (.con (.int 17)) (.var 2)))) (.cons (.for' (.tp [2, 3]) (.enum (.var 0)) (.cons (.setOwn 1 (.bin .mod (.var 2) (.con (.int 64))) (.bin .mod (.bin .add (.bin .mul (.ix (.var 1) (.bin .mod (.var 2) (.con (.int 64)))) (.con (.int 48271))) (.var 3)) (.con (.int 2147483647)))) .nil)) (.cons (.for' (.nm 2) (.rng2 (.con (.int 1)) (.con (.int 64))) (.cons (.setOwn 1 (.var 2) (.bin .mod (.bin .add (.ix (.var 1) (.var 2)) (.bin .mul (.ix (.var 1) (.bin .sub (.var 2) (.con (.int 1)))) (.con (.int 16807)))) (.con (.int 2147483647)))) .nil)) (.cons (.retV 1) .nil))))
def f_folded : Fn := ⟨1, 4, b_folded⟩
theorem rngL_get {lo : Int} {n i : Nat} {d : D} (e : (rngL lo n)[i]? = some d) : i < n ∧ d = .int (lo + (i : Nat)) := by
  unfold rngL at e
  rw [List.getElem?_map] at e
  by_cases hi : i < n
  · rw [List.getElem?_range hi] at e
    exact ⟨hi, (Option.some.inj e).symm⟩
  · rw [List.getElem?_eq_none (by simpa using hi)] at e
    cases e
theorem rngL_mem {lo : Int} {n : Nat} {d : D} (h : d ∈ rngL lo n) : ∃ i : Nat, i < n ∧ d = .int (lo + (i : Nat)) := by
  obtain ⟨i, hi⟩ := List.getElem?_of_mem h
  exact ⟨i, rngL_get hi⟩
theorem rngL_length {lo : Int} {n : Nat} : (rngL lo n).length = n := by simp [rngL]
theorem w_ixB {h : Hh} {l : List D} {i : Int} {d : D} {Q : R → Hh → Prop} (q : atI l i = some d) (p : Q (.dat d) h) : evX X (ofR h (ixF h (.bor l) (.dat (.int i))) .dat) Q := by
  refine w_ofR ?_ p
  exact q
def Cells (cs : List Int) : Prop := cs.length = 64 ∧ ∀ c ∈ cs, 0 ≤ c ∧ c < 2 ^ 31
theorem Cells.set {cs : List Int} (h : Cells cs) (j : Nat) (x : Int) : Cells (cs.set j (x % 2147483647)) := by
  refine ⟨by simpa using h.1, fun c hc => ?_⟩
  rcases List.mem_or_eq_of_mem_set hc with hc | rfl
  · exact h.2 c hc
  · have := Int.emod_nonneg x (show (2147483647 : Int) ≠ 0 by decide)
    have := Int.emod_lt_of_pos x (show (0 : Int) < 2147483647 by decide)
    omega
theorem set_ints (cs : List Int) (j : Nat) (x : Int) : (cs.map D.int).set j (.int x) = (cs.set j x).map D.int := (List.map_set ..).symm
section
variable {T : Tab} {G : Str → Option D} {n : Nat} {h : Hh}
theorem folded_ok (hT : T "_law_folded" = some f_folded) {ns : List Int} :
    evX X (run T G (n + 1) "_law_folded" [scriptD ns] h) fun r h' => h' = h ∧ ∃ cs : List Int, r = .new (cs.map .int) ∧ Cells cs := by
  refine v_run hT rfl ?_
  unfold f_folded b_folded scriptD
  simp only [Fn.env, List.map_cons, List.map_nil, Nat.reduceSub, List.replicate_succ, List.replicate_zero, List.cons_append, List.nil_append]
  repeat walk_at "mi"
  refine ev_of (comp_map (fun d => match d with | .int i => .int (17 + i) | d => d) (by rw [rngL_length]; decide) fun d hd => ?_) ?_
  · obtain ⟨i, hi, rfl⟩ := rngL_mem hd
    refine ev_eq ?_
    show evX _ (compG _ _ _ _ _ h) _
    repeat walk_at "mi"
    exact ⟨rfl, rfl⟩
  have e1 : (rngL 0 (64 : Int).toNat).map (fun d => match d with | .int i => .int (17 + i) | d => d) = ((List.range 64).map fun i : Nat => (17 + (i : Int))).map D.int := by
    simp [rngL]
  rw [List.nil_append, e1]
  have c0 : Cells ((List.range 64).map fun i : Nat => (17 + (i : Int))) := ⟨by simp, fun c hc => by
    obtain ⟨i, hi, rfl⟩ := List.mem_map.mp hc
    have := List.mem_range.mp hi
    omega⟩
  generalize (List.range 64).map (fun i : Nat => (17 + (i : Int))) = cs at c0
  repeat walk_at "mi"
  refine w_ofR (a := ns.map .int) rfl ?_
  refine ev_for (fun _ e g => g = h ∧ ∃ cs s2 s3, e = [.val (.arg (ns.map .int)), .own (cs.map .int), s2, s3] ∧ Cells cs) ⟨rfl, cs, _, _, rfl, c0⟩ ?_ ?_
  · rintro i d e g hd ⟨rfl, cs, s2, s3, rfl, hc⟩
    obtain ⟨d', g1, rfl⟩ := enum_get hd
    rw [List.getElem?_map] at g1
    obtain ⟨x, _, rfl⟩ := Option.map_eq_some_iff.mp g1
    refine ⟨_, rfl, ?_⟩
    repeat walk_at "mi"
    have hj : ((((0 + i : Nat)) : Int) % 64).toNat < cs.length := by rw [hc.1]; omega
    refine w_ixB (atI_in (by omega) (by simpa using hj)) ?_
    rw [List.getElem_map]
    repeat walk_at "mi"
    refine v_setOR (ixN_in (by omega) (by rw [List.length_map, hc.1]; omega)) ?_
    rw [set_ints]
    repeat walk_at "mi"
    exact ⟨rfl, _, _, _, rfl, hc.set _ _⟩
  · rintro e g ⟨rfl, cs, s2, s3, rfl, hc⟩
    repeat walk_at "mi"
    refine ev_for (fun _ e g' => g' = g ∧ ∃ cs s2 s3, e = [.val (.arg (ns.map .int)), .own (cs.map .int), s2, s3] ∧ Cells cs) ⟨rfl, cs, _, _, rfl, hc⟩ ?_ ?_
    · rintro i d e g hd ⟨rfl, cs, s2, s3, rfl, hc⟩
      obtain ⟨hi, rfl⟩ := rngL_get hd
      have hi : i < 63 := hi
      refine ⟨_, rfl, ?_⟩
      repeat walk_at "mi"
      refine w_ixB (atI_in (by omega) (by rw [List.length_map, hc.1]; omega)) ?_
      rw [List.getElem_map]
      repeat walk_at "mi"
      refine w_ixB (atI_in (by omega) (by rw [List.length_map, hc.1]; omega)) ?_
      rw [List.getElem_map]
      repeat walk_at "mi"
      refine v_setOR (ixN_in (by omega) (by rw [List.length_map, hc.1]; omega)) ?_
      rw [set_ints]
      repeat walk_at "mi"
      exact ⟨rfl, _, _, _, rfl, hc.set _ _⟩
    · rintro e g ⟨rfl, cs, s2, s3, rfl, hc⟩
      repeat walk_at "mi"
      exact ⟨rfl, cs, rfl, hc⟩
def b_begun : Ss := (.cons (.asg 1 (.dct [.inr "cells", .inr "left", .inr "at"] (.cons (.promo (.call "_law_folded" (.cons (.var 0) .nil))) (.cons (.promo (.lst .nil)) (.cons (.con (.int 0)) .nil))))) (.cons (.setD (.var 1) (.con (.str "left")) (.promo (.comp [2] (.nm 2) (.seq (.var 0)) (.con (.bl true)) (.ite (.cmp .ge (.var 2) (.bin .pow (.con (.int 10)) (.con (.int 18)))) (.var 2) (.con (.int 0)))))) (.cons (.ret (.var 1)) .nil)))
def f_begun : Fn := ⟨1, 3, b_begun⟩
theorem put_left {ci li : Nat} {a : Int} {d : D} : dPut [(.inr "cells", .ref ci), (.inr "left", .ref li), (.inr "at", .int a)] (.inr "left") d = [(.inr "cells", .ref ci), (.inr "left", d), (.inr "at", .int a)] := by rfl
theorem begun_ok (hT : T "_law_folded" = some f_folded) (hB : T "_law_begun" = some f_begun) {ns : List Int} (hn : ns.length ≤ 63) :
    evX X (run T G (n + 2) "_law_begun" [scriptD ns] []) fun r h' => r = .dat (.ref 2) ∧ h'.length = 4 ∧ Dr h' 2 0 3 0 := by
  refine v_run hB rfl ?_
  unfold f_begun b_begun
  simp only [Fn.env, List.map_cons, List.map_nil, Nat.reduceSub, List.replicate_succ, List.replicate_zero, List.cons_append, List.nil_append]
  repeat walk_at "mi"
  refine ev_mono (folded_ok hT) ?_
  rintro r h1 ⟨rfl, cs, rfl, hc⟩
  repeat walk_at "mi"
  have fact : ∀ d ∈ ns.map D.int, compF (run T G (n + 1)) G [2] (.nm 2) (.con (.bl true)) (.ite (.cmp .ge (.var 2) (.bin .pow (.con (.int 10)) (.con (.int 18)))) (.var 2) (.con (.int 0)))
      [.val (scriptD ns), .val (.ref 2), .un] d [.lst (cs.map .int), .lst [], .dct [(.inr "cells", .ref 0), (.inr "left", .ref 1), (.inr "at", .int 0)]] =
      .ok (some ((fun d => match d with | .int i => .int (if 10 ^ 18 ≤ i then i else 0) | d => d) d)) [.lst (cs.map .int), .lst [], .dct [(.inr "cells", .ref 0), (.inr "left", .ref 1), (.inr "at", .int 0)]] := by
    intro d hd
    obtain ⟨x, _, rfl⟩ := List.mem_map.mp hd
    refine ev_eq ?_
    show evX _ (compG _ _ _ _ _ _) _
    repeat walk_at "mi"
    refine ev_br (fun hx => ?_) (fun hx => ?_)
    · repeat walk_at "mi"
      have hx := of_decide_eq_true hx
      refine ⟨?_, rfl⟩
      show _ = some (D.int (if 10 ^ 18 ≤ x then x else 0))
      exact congrArg (fun z => some (D.int z)) (if_pos hx).symm
    · repeat walk_at "mi"
      have hx := of_decide_eq_false hx
      refine ⟨?_, rfl⟩
      show _ = some (D.int (if 10 ^ 18 ≤ x then x else 0))
      exact congrArg (fun z => some (D.int z)) (if_neg hx).symm
  simp only [List.nil_append, List.cons_append, List.length_nil, List.length_cons, Nat.zero_add, Nat.reduceAdd, List.zip_cons_cons, List.zip_nil_left]
  refine w_of (a := ns.map .int) rfl ?_
  refine ev_of (comp_map _ (by rw [List.length_nil, Nat.zero_add, List.length_map]; exact Nat.le_trans hn (by decide)) fact) ?_
  rw [List.nil_append]
  have e1 : (ns.map D.int).map (fun d => match d with | .int i => .int (if 10 ^ 18 ≤ i then i else 0) | d => d) = (ns.map fun i => if 10 ^ 18 ≤ i then i else 0).map D.int := by
    simp
  rw [e1]
  repeat walk_at "mi"
  simp only [List.nil_append, List.cons_append, List.length_nil, List.length_cons, Nat.zero_add, Nat.reduceAdd, List.zip_cons_cons, List.zip_nil_left]
  refine v_setDR (l := [(.inr "cells", .ref 0), (.inr "left", .ref 1), (.inr "at", .int 0)]) rfl rfl (show 3 < sizeLine by decide) ?_
  rw [put_left]
  repeat walk_at "mi"
  refine ⟨rfl, rfl, ⟨cs, ns.map fun i => if 10 ^ 18 ≤ i then i else 0, 0, rfl, rfl, hc.1, hc.2, rfl, ?_, by omega, by omega⟩, by decide, by decide, by decide⟩
  intro x hx
  obtain ⟨y, _, rfl⟩ := List.mem_map.mp hx
  split <;> omega
end
end Mi
/-! Mi13: texts; the small looks at numbers and names. -/
namespace Mi
open PySem PySem.Spec PyProof.Rows L2
variable {X : Exc → Hh → Prop}
/-! ### texts -/
/-- a plain text of at most k signs -/
def Wd (k : Nat) (s : Str) : Prop := s.length ≤ k ∧ ∀ c ∈ s.cps.toList, c < 0x110000
def wdB (k : Nat) (s : Str) : Bool := decide (s.length ≤ k) && s.cps.toList.all fun c => decide (c < 0x110000)
theorem Wd.of {k : Nat} {s : Str} (h : wdB k s = true) : Wd k s := by
  unfold wdB at h
  simp only [Bool.and_eq_true, decide_eq_true_eq, List.all_eq_true] at h
  exact h
theorem Wd.le {k j : Nat} {s : Str} (h : Wd k s) (hk : k ≤ j) : Wd j s := ⟨Nat.le_trans h.1 hk, h.2⟩
theorem Wd.ok {k : Nat} {s : Str} (h : Wd k s) : PyData.strOk s = true := by
  unfold PyData.strOk
  rw [Array.all_eq_true']
  intro c hc
  simpa using h.2 c (by simpa using hc)
theorem Wd.app {k j : Nat} {x y : Str} (a : Wd k x) (b : Wd j y) : Wd (k + j) (x ++ y) := by
  refine ⟨by rw [PySem.Str.length_append]; exact Nat.add_le_add a.1 b.1, fun c hc => ?_⟩
  rw [PySem.Str.cps_append, Array.toList_append, List.mem_append] at hc
  exact hc.elim (a.2 c) (b.2 c)
theorem Wd.cut {k : Nat} {x : Str} (a : Wd k x) (lo hi : Option Int) : Wd k (cutS x lo hi) := by
  have sub : (cutS x lo hi).cps.toList.Sublist x.cps.toList := by
    unfold cutS
    show (List.take _ (List.drop _ _)).Sublist _
    exact (List.take_sublist _ _).trans (List.drop_sublist _ _)
  refine ⟨?_, fun c hc => a.2 c (sub.subset hc)⟩
  have := sub.length_le
  have e1 : (cutS x lo hi).cps.toList.length = (cutS x lo hi).length := by simp [Str.length]
  have e2 : x.cps.toList.length = x.length := by simp [Str.length]
  have := a.1
  omega
theorem Wd.one {k c : Nat} {x : Str} (a : Wd k x) (h : c ∈ x.cps.toList) : Wd 1 ⟨#[c]⟩ := ⟨Nat.le_refl _, fun d hd => by
  have : d = c := by simpa using hd
  rw [this]; exact a.2 c h⟩
theorem Wd.join {k : Nat} {sep : Str} (hs : Wd 0 sep) : ∀ {ys : List Str}, (∀ y ∈ ys, Wd k y) → Wd (ys.length * k) (Str.join sep ys)
  | [], _ => by refine ⟨Nat.zero_le _, fun c hc => ?_⟩; simp [Str.join, Str.empty] at hc
  | [x], h => by
    have := h x List.mem_cons_self
    simpa [Str.join] using this
  | x :: y :: ys, h => by
    have h1 := h x List.mem_cons_self
    have h2 := Wd.join (k := k) (ys := y :: ys) hs fun z hz => h z (List.mem_cons_of_mem _ hz)
    have := (h1.app hs).app h2
    refine this.le ?_
    simp only [List.length_cons, Nat.add_mul]
    omega
theorem txt_join {sep : Str} {ys : List Str} : Txt.join sep ys = Str.join sep ys := PySem.StrLaws.glued_eq_join sep ys
theorem w_addS {x y : Str} {a b : Nat} {h : Hh} {Q : R → Hh → Prop} (ha : Wd a x) (hb : Wd b y) (hz : a + b ≤ sizeLine) (p : Wd (a + b) (x ++ y) → Q (.dat (.str (x ++ y))) h) : evX X (Res.of h (binF h .add (.dat (.str x)) (.dat (.str y)))) Q := by
  have := ha.1
  have := hb.1
  refine w_of (a := .dat (.str (x ++ y))) ?_ (p (ha.app hb))
  show (if x.length + y.length ≤ sizeLine then _ else _) = _
  rw [if_pos (by omega)]
theorem w_slS {x : Str} {a : Nat} {lo hi : Option Int} {h : Hh} {Q : R → Hh → Prop} (ha : Wd a x) (hz : a ≤ sizeLine) (p : Wd a (cutS x lo hi) → Q (.dat (.str (cutS x lo hi))) h) : evX X (Res.of h (slF h lo hi (.dat (.str x)))) Q := by
  have := ha.1
  refine w_of (a := .dat (.str (cutS x lo hi))) ?_ (p (ha.cut lo hi))
  show (if x.length ≤ sizeLine then _ else _) = _
  rw [if_pos (by omega)]
theorem w_ixS {x : Str} {a : Nat} {i : Int} {h : Hh} {Q : R → Hh → Prop} (ha : Wd a x) (hz : a ≤ sizeLine) (h0 : 0 ≤ i) (h1 : i < x.length) (p : ∀ c ∈ x.cps.toList, Wd 1 ⟨#[c]⟩ → Q (.dat (.str ⟨#[c]⟩)) h) : evX X (ofR h (ixF h (.dat (.str x)) (.dat (.int i))) .dat) Q := by
  have := ha.1
  have hl : i.toNat < x.cps.toList.length := by simp only [Array.length_toList]; unfold Str.length at h1; omega
  have hm := List.getElem_mem hl
  refine w_ofR (a := .str ⟨#[x.cps.toList[i.toNat]]⟩) ?_ (p _ hm (ha.one hm))
  show (if x.length ≤ sizeLine then _ else _) = _
  rw [if_pos (by omega), atI_in h0 hl]
  rfl
theorem w_lenS {x : Str} {a : Nat} {h : Hh} {Q : R → Hh → Prop} (ha : Wd a x) (hz : a ≤ sizeLine) (p : Q (.dat (.int x.length)) h) : evX X (Res.of h (bltF h .len [.str x])) Q := by
  have := ha.1
  refine w_of (a := .dat (.int x.length)) ?_ p
  show (if x.length ≤ sizeLine then _ else _) = _
  rw [if_pos (by omega)]
/-! ### flat things in flat lists -/
theorem flats_strs : ∀ ws : List Str, flats (ws.map .str) = some (ws.map V.str)
  | [] => by simp [flats]
  | x :: xs => by simp [flats, D.flat, flats_strs xs]
theorem w_inS {x : Str} {ws : List Str} {y : R} {h : Hh} {Q : R → Hh → Prop} (e : sv h y = some (ws.map .str)) (hy : ∀ b, y ≠ .dat (.str b)) (p : Q (.dat (.bl (inV (.str x) (ws.map V.str)))) h) : evX X (ofR h (cmpF h .isin (.dat (.str x)) y) fun b => R.dat (.bl b)) Q := by
  refine w_ofR (a := inV (.str x) (ws.map V.str)) ?_ p
  show inF h (.dat (.str x)) y = _
  have e2 : (sv h y).bind flats = some (ws.map V.str) := by rw [e]; exact flats_strs ws
  cases y with
  | dat d =>
    cases d with
    | str b => exact absurd rfl (hy b)
    | _ => simp only [inF, D.flat, e2]
  | _ => simp only [inF, D.flat, e2]
theorem w_notinS {x : Str} {ws : List Str} {y : R} {h : Hh} {Q : R → Hh → Prop} (e : sv h y = some (ws.map .str)) (hy : ∀ b, y ≠ .dat (.str b)) (p : Q (.dat (.bl (!inV (.str x) (ws.map V.str)))) h) : evX X (ofR h (cmpF h .notin (.dat (.str x)) y) fun b => R.dat (.bl b)) Q := by
  have q : evX X (ofR h (cmpF h .isin (.dat (.str x)) y) fun b => R.dat (.bl b)) fun r g => r = .dat (.bl (inV (.str x) (ws.map V.str))) ∧ g = h := w_inS e hy ⟨rfl, rfl⟩
  refine w_ofR (a := !inV (.str x) (ws.map V.str)) ?_ p
  show (inF h (.dat (.str x)) y).map (!·) = _
  cases z : inF h (.dat (.str x)) y with
  | none =>
    have q' : evX X (ofR h (inF h (.dat (.str x)) y) fun b => R.dat (.bl b)) _ := q
    rw [z] at q'; exact q'.elim
  | some b =>
    have q' : evX X (ofR h (inF h (.dat (.str x)) y) fun b => R.dat (.bl b)) _ := q
    rw [z] at q'
    have : R.dat (.bl b) = .dat (.bl (inV (.str x) (ws.map V.str))) := q'.1
    cases this
    rfl
theorem w_in1 {c : Nat} {z : Str} {h : Hh} {Q : R → Hh → Prop} (p : Q (.dat (.bl (decide (c ∈ z.cps.toList)))) h) : evX X (ofR h (cmpF h .isin (.dat (.str ⟨#[c]⟩)) (.dat (.str z))) fun b => R.dat (.bl b)) Q := p
theorem w_notin1 {c : Nat} {z : Str} {h : Hh} {Q : R → Hh → Prop} (p : Q (.dat (.bl (!decide (c ∈ z.cps.toList)))) h) : evX X (ofR h (cmpF h .notin (.dat (.str ⟨#[c]⟩)) (.dat (.str z))) fun b => R.dat (.bl b)) Q := p
theorem boolsOf_map {α : Type} (f : α → Bool) : ∀ l : List α, boolsOf (l.map fun x => .bl (f x)) = some (l.map f)
  | [] => by simp [boolsOf]
  | x :: xs => by simp [boolsOf, boolsOf_map f xs]
theorem w_all {α : Type} {f : α → Bool} {l : List α} {h : Hh} {Q : R → Hh → Prop} (p : Q (.dat (.bl (l.all f))) h) : evX X (Res.of h (bltF h .all [.lst (l.map fun x => .bl (f x))])) Q := by
  refine w_of (a := .dat (.bl (l.all f))) ?_ p
  show (boolsOf _).map _ = _
  rw [boolsOf_map]
  simp [List.all_map]
/-- it can be looked at -/
def seen (h : Hh) : D → Bool
  | .arg _ => false
  | .sp _ _ _ => false
  | .ref n => h[n]?.isSome
  | _ => true
def isInt : D → Bool
  | .int _ => true
  | .bl _ => true
  | _ => false
def isBl : D → Bool
  | .bl _ => true
  | _ => false
def isStr : D → Bool
  | .str _ => true
  | _ => false
def isTup : D → Bool
  | .tup _ => true
  | _ => false
def whole : D → Bool
  | .int _ => true
  | _ => false
section
variable {h : Hh} {d : D} {Q : R → Hh → Prop}
theorem isi_int (s : seen h d = true) : isiF h .int d = some (isInt d) := by
  cases d <;> try rfl
  · cases s
  · rename_i n
    simp only [seen] at s
    simp only [isiF]
    cases e : h[n]? with
    | none => rw [e] at s; cases s
    | some o => cases o <;> rfl
  · cases s
theorem isi_bl (s : seen h d = true) : isiF h .bool d = some (isBl d) := by
  cases d <;> try rfl
  · cases s
  · rename_i n
    simp only [seen] at s
    simp only [isiF]
    cases e : h[n]? with
    | none => rw [e] at s; cases s
    | some o => cases o <;> rfl
  · cases s
theorem isi_str (s : seen h d = true) : isiF h .str d = some (isStr d) := by
  cases d <;> try rfl
  · cases s
  · rename_i n
    simp only [seen] at s
    simp only [isiF]
    cases e : h[n]? with
    | none => rw [e] at s; cases s
    | some o => cases o <;> rfl
  · cases s
theorem isi_tup (s : seen h d = true) : isiF h .tuple d = some (isTup d) := by
  cases d <;> try rfl
  · cases s
  · rename_i n
    simp only [seen] at s
    simp only [isiF]
    cases e : h[n]? with
    | none => rw [e] at s; cases s
    | some o => cases o <;> rfl
  · cases s
theorem w_isI (s : seen h d = true) (p : Q (.dat (.bl (isInt d))) h) : evX X (ofR h (isiF h .int d) fun b => R.dat (.bl b)) Q := w_ofR (isi_int s) p
theorem w_isB (s : seen h d = true) (p : Q (.dat (.bl (isBl d))) h) : evX X (ofR h (isiF h .bool d) fun b => R.dat (.bl b)) Q := w_ofR (isi_bl s) p
theorem w_isS (s : seen h d = true) (p : Q (.dat (.bl (isStr d))) h) : evX X (ofR h (isiF h .str d) fun b => R.dat (.bl b)) Q := w_ofR (isi_str s) p
theorem w_isT (s : seen h d = true) (p : Q (.dat (.bl (isTup d))) h) : evX X (ofR h (isiF h .tuple d) fun b => R.dat (.bl b)) Q := w_ofR (isi_tup s) p
end
def f_is_whole : Fn := ⟨1, 1, (.cons (.ret (.and2 (.isi (.var 0) .int) (.not1 (.isi (.var 0) .bool)))) .nil)⟩
def f_is_among : Fn := ⟨3, 3, (.cons (.ret (.and2 (.call "is_whole" (.cons (.var 0) .nil)) (.chain .le .le (.var 1) (.var 0) (.var 2)))) .nil)⟩
def among (a b : Int) : D → Bool
  | .int i => decide (a ≤ i) && decide (i ≤ b)
  | _ => false
section
variable {T : Tab} {G : Str → Option D} {n : Nat} {h : Hh} {d : D}
theorem whole_ok (hT : T "is_whole" = some f_is_whole) (s : seen h d = true) : run T G (n + 1) "is_whole" [d] h = .ok (.dat (.bl (whole d))) h := by
  refine ev_eq (v_run hT rfl ?_)
  unfold f_is_whole
  simp only [Fn.env, List.map_cons, List.map_nil, Nat.reduceSub, List.replicate_succ, List.replicate_zero, List.cons_append, List.nil_append]
  repeat walk_at "mi"
  refine w_isI s (ev_br (fun h1 => ?_) (fun h1 => ?_))
  · repeat walk_at "mi"
    refine w_isB s ?_
    repeat walk_at "mi"
    refine ⟨?_, rfl⟩
    cases d <;> first | rfl | cases h1
  · repeat walk_at "mi"
    refine ⟨?_, rfl⟩
    cases d <;> first | rfl | cases h1
theorem among_ok (hT : T "is_whole" = some f_is_whole) (hA : T "is_among" = some f_is_among) {a b : Int} (s : seen h d = true) : run T G (n + 2) "is_among" [d, .int a, .int b] h = .ok (.dat (.bl (among a b d))) h := by
  refine ev_eq (v_run hA rfl ?_)
  unfold f_is_among
  simp only [Fn.env, List.map_cons, List.map_nil, Nat.reduceSub, List.replicate_succ, List.replicate_zero, List.cons_append, List.nil_append]
  repeat walk_at "mi"
  refine ev_of (whole_ok hT s) ?_
  cases d with
  | int i =>
    show evX _ (brR (.dat (.bl true)) _ _) _
    repeat walk_at "mi"
    refine ev_br (fun h1 => ?_) (fun h1 => ?_)
    · repeat walk_at "mi"
      exact ⟨by simp only [among, h1, Bool.true_and], rfl⟩
    · repeat walk_at "mi"
      exact ⟨by simp only [among, h1, Bool.false_and], rfl⟩
  | _ => exact ⟨rfl, rfl⟩
end
/-! ### is_name -/
def letters : Str := "abcdefghijklmnopqrstuvwxyz"
def barred : List Str := ["any", "is", "name", "both", "either", "not", "first", "row", "lot", "turned", "all", "use", "hole", "one", "stretch", "rest", "rule", "end"]
def f_is_name : Fn := ⟨1, 2, (.cons (.ifs (.or2 (.not1 (.isi (.var 0) .str)) (.or2 (.not1 (.chain .le .le (.con (.int 1)) (.blt .len (.cons (.var 0) .nil)) (.glo "MOST_LETTERS"))) (.cmp .isin (.var 0) (.glo "BARRED")))) (.cons (.ret (.con (.bl false))) .nil) .nil) (.cons (.ret (.blt .all (.cons (.comp [1] (.nm 1) (.seq (.var 0)) (.con (.bl true)) (.cmp .isin (.var 1) (.glo "LETTERS"))) .nil))) .nil))⟩
def signs (s : Str) : Bool := s.cps.toList.all fun c => decide (c ∈ letters.cps.toList)
def nameS (s : Str) : Bool := decide (1 ≤ (s.length : Int)) && decide ((s.length : Int) ≤ 6) && !inV (.str s) (barred.map V.str) && signs s
def nameD : D → Bool
  | .str s => nameS s
  | _ => false
section
variable {T : Tab} {G : Str → Option D} {n : Nat} {h : Hh} {d : D}
theorem name_ok (hT : T "is_name" = some f_is_name) (g1 : G "LETTERS" = some (.str letters)) (g2 : G "MOST_LETTERS" = some (.int 6)) (g3 : G "BARRED" = some (.tup (barred.map .str))) (s : seen h d = true) (hw : ∀ w, d = .str w → Wd 1000 w) :
    run T G (n + 1) "is_name" [d] h = .ok (.dat (.bl (nameD d))) h := by
  refine ev_eq (v_run hT rfl ?_)
  unfold f_is_name
  simp only [Fn.env, List.map_cons, List.map_nil, Nat.reduceSub, List.replicate_succ, List.replicate_zero, List.cons_append, List.nil_append]
  repeat walk_at "mi"
  refine w_isS s ?_
  by_cases hd : isStr d = true
  · cases d with
    | str w =>
      have wd := hw w rfl
      show evX _ (notR (.dat (.bl true)) _) _
      repeat walk_at "mi"
      simp only [Bool.not_true]
      repeat walk_at "mi"
      refine w_lenS wd (by decide) ?_
      repeat walk_at "mi"
      have bad : ∀ {b : Bool} {g : Hh}, nameS w = false → b = false → g = h → R.dat (.bl b) = .dat (.bl (nameD (.str w))) ∧ g = h := by
        rintro b g e rfl rfl
        exact ⟨by show _ = R.dat (.bl (nameS w)); rw [e], rfl⟩
      refine ev_br (fun h1 => ?_) (fun h1 => ?_)
      · repeat walk_at "mi"
        refine ev_br (fun h2 => ?_) (fun h2 => ?_)
        · repeat walk_at "mi"
          exact bad (by simp only [Bool.not_eq_true'] at h2; simp only [nameS, h2, Bool.and_false, Bool.false_and]) rfl rfl
        · repeat walk_at "mi"
          refine w_inS (ws := barred) rfl (fun _ z => by cases z) ?_
          repeat walk_at "mi"
          refine ev_br (fun h3 => ?_) (fun h3 => ?_)
          · repeat walk_at "mi"
            exact bad (by simp only [nameS, h3, Bool.not_true, Bool.and_false, Bool.false_and]) rfl rfl
          · repeat walk_at "mi"
            refine w_of (a := signsL w) rfl ?_
            have hlen : w.cps.toList.length ≤ 1000 := by simpa [Str.length] using wd.1
            have em : signsL w = w.cps.toList.map fun c => .str ⟨#[c]⟩ := rfl
            have fact : compR (run T G n) G [1] (.nm 1) (.con (.bl true)) (.cmp .isin (.var 1) (.glo "LETTERS")) [.val (.str w), .un] (signsL w) h = .ok (.new (w.cps.toList.map fun c => .bl (decide (c ∈ letters.cps.toList)))) h := by
              unfold compR
              rw [comp_map (fun d => match d with | .str s => .bl (s.cps.toList.all fun c => decide (c ∈ letters.cps.toList)) | d => d) (by rw [em, List.length_nil, Nat.zero_add, List.length_map]; exact Nat.le_trans hlen (by decide)) fun d hd => ?_]
              · rw [em, List.nil_append, List.map_map]
                simp
              · rw [em] at hd
                obtain ⟨c, _, rfl⟩ := List.mem_map.mp hd
                refine ev_eq ?_
                show evX _ (compG _ _ _ _ _ h) _
                repeat walk_at "mi"
                refine w_in1 ?_
                repeat walk_at "mi"
                exact ⟨by simp, rfl⟩
            refine ev_of fact ?_
            repeat walk_at "mi"
            refine w_all ?_
            repeat walk_at "mi"
            refine ⟨?_, rfl⟩
            simp only [Bool.not_eq_false'] at h2
            show _ = R.dat (.bl (nameS w))
            simp only [nameS, h1, h2, h3, Bool.not_false, Bool.true_and, signs]
      · repeat walk_at "mi"
        exact bad (by simp only [nameS, h1, Bool.false_and]) rfl rfl
    | _ => cases hd
  · have hd : isStr d = false := by simpa using hd
    rw [hd]
    repeat walk_at "mi"
    simp only [Bool.not_false]
    repeat walk_at "mi"
    refine ⟨?_, rfl⟩
    cases d <;> first | rfl | cases hd
end
end Mi
/-! Mi14: drawn words. -/
namespace Mi
open PySem PySem.Spec PyProof.Rows L2
variable {X : Exc → Hh → Prop}
theorem strsOf_map : ∀ ws : List Str, strsOf (ws.map .str) = some ws
  | [] => by simp [strsOf]
  | x :: xs => by simp [strsOf, strsOf_map xs]
theorem sum_le {k : Nat} : ∀ {ws : List Str}, (∀ w ∈ ws, Wd k w) → (ws.map (·.length)).sum ≤ ws.length * k
  | [], _ => by simp
  | x :: xs, h => by
    have h1 := (h x List.mem_cons_self).1
    have h2 := sum_le (k := k) (ws := xs) fun w hw => h w (List.mem_cons_of_mem _ hw)
    simp only [List.map_cons, List.sum_cons, List.length_cons, Nat.add_mul]
    omega
theorem w_join {k : Nat} {ws : List Str} {h : Hh} {Q : R → Hh → Prop} (hw : ∀ w ∈ ws, Wd k w) (hz : ws.length * k ≤ 16777216) (p : Wd (ws.length * k) (Str.join "" ws) → Q (.dat (.str (Str.join "" ws))) h) : evX X (Res.of h (mthF .join "" [.lst (ws.map .str)])) Q := by
  refine w_of (a := .dat (.str (Str.join "" ws))) ?_ (p (Wd.join (Wd.of (by decide)) hw))
  show (match strsOf (ws.map .str) with
    | some (ys : List Str) => if (ys.map fun y : Str => y.length).sum + ys.length * ("" : Str).length ≤ 16777216 then some (R.dat (.str (Txt.join "" ys))) else none
    | none => none) = _
  rw [strsOf_map]
  have := sum_le hw
  have e0 : ("" : Str).length = 0 := by decide
  simp only
  rw [if_pos (by rw [e0]; omega), txt_join]
theorem w_ixN {h : Hh} {l : List D} {i : Int} {d : D} {Q : R → Hh → Prop} (q : atI l i = some d) (p : Q (.dat d) h) : evX X (ofR h (ixF h (.new l) (.dat (.int i))) .dat) Q := w_ofR (by exact q) p
theorem w_ixF {h : Hh} {l : List D} {i : Int} {d : D} {Q : R → Hh → Prop} (q : atI l i = some d) (p : Q (.dat d) h) : evX X (ofR h (ixF h (.dat (.lst l)) (.dat (.int i))) .dat) Q := w_ofR (by exact q) p
theorem w_addLN {a b : List D} {h : Hh} {Q : R → Hh → Prop} (z : a.length + b.length ≤ sizeLine) (p : Q (.new (a ++ b)) h) : evX X (Res.of h (binF h .add (.dat (.lst a)) (.new b))) Q := by
  refine w_of (a := .new (a ++ b)) ?_ p
  show (if a.length + b.length ≤ sizeLine then _ else _) = _
  rw [if_pos z]
def f_words : Fn := ⟨2, 15, (.cons (.asg 2 (.con (.str "abcdefghijklmnopqrstuvwxyz"))) (.cons (.asgs [3, 4] (.tup (.cons (.call "_law_draw" (.cons (.var 0) (.cons (.con (.int 26)) .nil))) (.cons (.call "_law_draw" (.cons (.var 0) (.cons (.con (.int 4)) .nil))) .nil)))) (.cons (.asg 5 (.bin .add (.con (.int 1)) (.call "_law_draw" (.cons (.var 0) (.cons (.con (.int 6)) .nil))))) (.cons (.asg 6 (.call "_law_draw" (.cons (.var 0) (.cons (.var 5) .nil)))) (.cons (.asg 7 (.ix (.lst (.cons (.con (.int 1)) (.cons (.con (.int 3)) (.cons (.con (.int 7)) (.cons (.con (.int 11)) (.cons (.con (.int 17)) (.cons (.con (.int 25)) .nil))))))) (.call "_law_draw" (.cons (.var 0) (.cons (.con (.int 6)) .nil))))) (.cons (.asg 8 (.mth .join (.con (.str "")) (.cons (.comp [13] (.nm 13) (.rng1 (.con (.int 8))) (.con (.bl true)) (.ix (.var 2) (.bin .mod (.bin .add (.var 3) (.bin .mul (.con (.int 5)) (.var 13))) (.con (.int 26))))) .nil))) (.cons (.own 9 (.lst .nil)) (.cons (.for' (.nm 10) (.rng1 (.var 1)) (.cons (.asg 11 (.ix (.var 2) (.bin .mod (.bin .add (.var 3) (.bin .mul (.var 7) (.var 10))) (.con (.int 26))))) (.cons (.app 9 (.ite (.cmp .eq (.var 4) (.con (.int 3))) (.bin .add (.var 11) (.sl (.var 8) .no (.part (.bin .mod (.bin .mul (.var 10) (.var 7)) (.con (.int 6)))))) (.bin .add (.bin .add (.sl (.var 8) .no (.part (.var 6))) (.var 11)) (.sl (.var 8) (.part (.bin .add (.var 6) (.con (.int 1)))) (.part (.var 5)))))) .nil))) (.cons (.asg 12 (.lst (.cons (.con (.str "any")) (.cons (.con (.str "is")) (.cons (.con (.str "name")) (.cons (.con (.str "both")) (.cons (.con (.str "either")) (.cons (.con (.str "not")) (.cons (.con (.str "first")) (.cons (.con (.str "row")) (.cons (.con (.str "lot")) (.cons (.con (.str "turned")) (.cons (.con (.str "all")) (.cons (.con (.str "use")) (.cons (.con (.str "hole")) .nil))))))))))))))) (.cons (.asg 12 (.bin .add (.var 12) (.lst (.cons (.con (.str "one")) (.cons (.con (.str "stretch")) (.cons (.con (.str "rest")) (.cons (.con (.str "rule")) (.cons (.con (.str "end")) .nil)))))))) (.cons (.frz 9) (.cons (.ret (.comp [14] (.nm 14) (.seq (.var 9)) (.con (.bl true)) (.ite (.cmp .notin (.var 14) (.var 12)) (.var 14) (.bin .add (.bin .add (.con (.str "zz")) (.sl (.var 14) .no (.part (.con (.int 1))))) (.con (.str "z")))))) .nil))))))))))))⟩
section
variable {T : Tab} {G : Str → Option D} {n : Nat} {h : Hh}
theorem words_ok (hM : T "_law_mixed" = some f_mixed) (hD : T "_law_draw" = some f_draw) (hT : T "_law_words" = some f_words) {m ci li : Nat} {b many : Int} (d : Dr h m ci li b) (hb : b < 2 ^ 58) (hm : 0 ≤ many) (hm2 : many ≤ 1000) :
    evX X (run T G (n + 3) "_law_words" [.ref m, .int many] h) fun r h' => ∃ ws : List Str, r = .new (ws.map .str) ∧ ws.length = many.toNat ∧ (∀ w ∈ ws, Wd 40 w) ∧ Dr h' m ci li (b + 5) ∧ Kp m li h h' := by
  refine v_run hT rfl ?_
  unfold f_words
  simp only [Fn.env, List.map_cons, List.map_nil, Nat.reduceSub, List.replicate_succ, List.replicate_zero, List.cons_append, List.nil_append]
  have wl : Wd 26 letters := Wd.of (by decide +kernel)
  have ll : letters.length = 26 := by decide +kernel
  repeat walk_at "mi"
  refine ev_mono (draw_ok hM hD d (by omega) (by decide) (by decide)) ?_
  rintro r h1 ⟨start, rfl, st0, st1, d1, k1⟩
  repeat walk_at "mi"
  refine ev_mono (draw_ok hM hD d1 (by omega) (by decide) (by decide)) ?_
  rintro r h2 ⟨way, rfl, wy0, wy1, d2, k2⟩
  repeat walk_at "mi"
  refine ev_mono (draw_ok hM hD d2 (by omega) (by decide) (by decide)) ?_
  rintro r h3 ⟨siz, rfl, sz0, sz1, d3, k3⟩
  repeat walk_at "mi"
  refine ev_mono (draw_ok hM hD d3 (by omega) (by omega) (by omega)) ?_
  rintro r h4 ⟨pl, rfl, pl0, pl1, d4, k4⟩
  repeat walk_at "mi"
  refine ev_mono (draw_ok hM hD d4 (by omega) (by decide) (by decide)) ?_
  rintro r h5 ⟨si, rfl, si0, si1, d5, k5⟩
  repeat walk_at "mi"
  have hl : si.toNat < [D.int 1, .int 3, .int 7, .int 11, .int 17, .int 25].length := by show si.toNat < 6; omega
  refine w_ixN (atI_in si0 hl) ?_
  obtain ⟨stride, hs, hs0, hs1⟩ : ∃ x : Int, [D.int 1, .int 3, .int 7, .int 11, .int 17, .int 25][si.toNat] = .int x ∧ 0 < x ∧ x ≤ 25 := by
    have := List.getElem_mem hl
    simp only [List.mem_cons, List.not_mem_nil, or_false] at this
    rcases this with e | e | e | e | e | e <;> exact ⟨_, e, by decide, by decide⟩
  rw [hs]
  repeat walk_at "mi"
  refine ev_comp (fun i acc g => g = h5 ∧ ∃ ws : List Str, acc = ws.map .str ∧ ws.length = i ∧ ∀ w ∈ ws, Wd 1 w) ⟨rfl, [], rfl, rfl, fun _ z => by cases z⟩ (by decide +kernel) ?_ ?_
  · rintro i d acc g hd ⟨rfl, ws, rfl, e1, e2⟩
    obtain ⟨hi, rfl⟩ := rngL_get hd
    have hi : i < 8 := hi
    refine ⟨_, rfl, ?_⟩
    repeat walk_at "mi"
    refine w_ixS (x := letters) wl (by decide) (by omega) (by rw [ll]; omega) fun c _ wc => ?_
    repeat walk_at "mi"
    refine ⟨rfl, ws ++ [⟨#[c]⟩], by simp, by simp [e1], fun w hw => ?_⟩
    rcases List.mem_append.mp hw with hw | hw
    · exact e2 w hw
    · rw [List.mem_singleton.mp hw]; exact wc
  rintro acc g ⟨rfl, ws, rfl, e1, e2⟩
  repeat walk_at "mi"
  have e1 : ws.length = 8 := e1
  refine w_join e2 (by rw [e1]; decide) fun wb => ?_
  rw [e1] at wb
  generalize Str.join "" ws = base at wb
  repeat walk_at "mi"
  refine ev_for (fun i e g' => g' = g ∧ ∃ (ws : List Str) (s10 s11 : Slot), e = [.val (.ref m), .val (.int many), .val (.str "abcdefghijklmnopqrstuvwxyz"), .val (.int start), .val (.int way), .val (.int (1 + siz)), .val (.int pl), .val (.int stride), .val (.str base), .own (ws.map .str), s10, s11, .un, .un, .un] ∧ ws.length = i ∧ ∀ w ∈ ws, Wd 20 w) ⟨rfl, [], _, _, rfl, rfl, fun _ z => by cases z⟩ ?_ ?_
  · rintro i d e g' hd ⟨rfl, ws, s10, s11, rfl, e3, e4⟩
    obtain ⟨hi, rfl⟩ := rngL_get hd
    refine ⟨_, rfl, ?_⟩
    repeat walk_at "mi"
    refine w_ixS (x := letters) wl (by decide) (by omega) (by rw [ll]; omega) fun c _ wc => ?_
    repeat walk_at "mi"
    have fin : ∀ {w : Str}, Wd 17 w → w.length ≤ 17 → (ws ++ [w]).length = i + 1 ∧ ∀ w' ∈ ws ++ [w], Wd 20 w' := by
      intro w hw _
      refine ⟨by simp [e3], fun w' hw' => ?_⟩
      rcases List.mem_append.mp hw' with h' | h'
      · exact e4 w' h'
      · rw [List.mem_singleton.mp h']; exact hw.le (by decide)
    have es : ∀ w : Str, ws.map D.str ++ [.str w] = (ws ++ [w]).map D.str := by intro w; simp
    have hlen : (ws.map D.str).length < sizeLine := by rw [List.length_map, e3]; exact Nat.lt_of_lt_of_le (show i < 1000 by omega) (by decide)
    refine ev_br (fun hw => ?_) (fun hw => ?_)
    · repeat walk_at "mi"
      refine w_slS wb (by decide) fun w1 => ?_
      repeat walk_at "mi"
      refine w_addS wc w1 (by decide) fun w2 => ?_
      repeat walk_at "mi"
      refine v_appR hlen ?_
      rw [es]
      repeat walk_at "mi"
      exact ⟨rfl, _, _, _, rfl, (fin (w2.le (by decide)) (w2.le (j := 17) (by decide)).1).1, (fin (w2.le (by decide)) (w2.le (j := 17) (by decide)).1).2⟩
    · repeat walk_at "mi"
      refine w_slS wb (by decide) fun w1 => ?_
      repeat walk_at "mi"
      refine w_addS w1 wc (by decide) fun w2 => ?_
      repeat walk_at "mi"
      refine w_slS wb (by decide) fun w3 => ?_
      repeat walk_at "mi"
      refine w_addS w2 w3 (by decide) fun w4 => ?_
      repeat walk_at "mi"
      refine v_appR hlen ?_
      rw [es]
      repeat walk_at "mi"
      exact ⟨rfl, _, _, _, rfl, (fin (w4.le (by decide)) (w4.le (j := 17) (by decide)).1).1, (fin (w4.le (by decide)) (w4.le (j := 17) (by decide)).1).2⟩
  rintro e g' ⟨rfl, ws, s10, s11, rfl, e3, e4⟩
  rw [rngL_length] at e3
  repeat walk_at "mi"
  refine w_addLN (by decide) ?_
  repeat walk_at "mi"
  refine w_of (a := ws.map .str) rfl ?_
  have hl2 : ws.length ≤ 1000 := by omega
  refine ev_comp (fun i acc g => g = g' ∧ ∃ vs : List Str, acc = vs.map .str ∧ vs.length = i ∧ ∀ w ∈ vs, Wd 40 w) ⟨rfl, [], rfl, rfl, fun _ z => by cases z⟩ (by rw [List.length_nil, Nat.zero_add, List.length_map]; exact Nat.le_trans hl2 (by decide)) ?_ ?_
  · rintro i d acc g hd ⟨rfl, vs, rfl, e5, e6⟩
    rw [List.getElem?_map] at hd
    obtain ⟨w, hw, rfl⟩ := Option.map_eq_some_iff.mp hd
    have ww := e4 w (List.mem_of_getElem? hw)
    refine ⟨_, rfl, ?_⟩
    repeat walk_at "mi"
    have fin : ∀ {w : Str}, Wd 40 w → (vs ++ [w]).length = i + 1 ∧ ∀ w' ∈ vs ++ [w], Wd 40 w' := by
      intro w hw
      refine ⟨by simp [e5], fun w' hw' => ?_⟩
      rcases List.mem_append.mp hw' with h' | h'
      · exact e6 w' h'
      · rw [List.mem_singleton.mp h']; exact hw
    have es : ∀ w : Str, vs.map D.str ++ [.str w] = (vs ++ [w]).map D.str := by intro w; simp
    refine w_notinS (ws := barred) rfl (fun _ z => by cases z) ?_
    refine ev_br (fun hq => ?_) (fun hq => ?_)
    · repeat walk_at "mi"
      exact ⟨rfl, _, es _, (fin (ww.le (by decide))).1, (fin (ww.le (by decide))).2⟩
    · repeat walk_at "mi"
      refine w_slS ww (by decide) fun w1 => ?_
      repeat walk_at "mi"
      refine w_addS (a := 2) (Wd.of (by decide)) w1 (by decide) fun w2 => ?_
      repeat walk_at "mi"
      refine w_addS w2 (b := 1) (Wd.of (by decide)) (by decide) fun w3 => ?_
      repeat walk_at "mi"
      exact ⟨rfl, _, es _, (fin (w3.le (by decide))).1, (fin (w3.le (by decide))).2⟩
  rintro acc g ⟨rfl, vs, rfl, e5, e6⟩
  repeat walk_at "mi"
  refine ⟨vs, rfl, by rw [e5, List.length_map, e3], e6, d5.mono (by omega), ((((k1.trans k2).trans k3).trans k4).trans k5)⟩
end
end Mi
/-! Mi15: plain data: equality, tuples, places, parts. -/
namespace Mi
open PySem PySem.Spec PyProof.Rows L2
variable {X : Exc → Hh → Prop}
noncomputable instance decD : DecidableEq D := fun _ _ => Classical.propDecidable _
/-- a great number, never unfolded -/
@[irreducible] def big : Nat := 1000000
theorem big_eq : big = 1000000 := by unfold big; rfl
theorem le_big {a : Nat} (h : a < 1000000) : a ≤ big := by rw [big_eq]; omega
/-- plain data, at most so deep: no truths, no lists of the heap -/
def Pl : Nat → D → Prop
  | _, .non => True
  | _, .int _ => True
  | _, .str s => PyData.strOk s = true
  | k + 1, .tup l => ∀ x ∈ l, Pl k x
  | k + 1, .lst l => ∀ x ∈ l, Pl k x
  | _, _ => False
theorem Pl.non {k : Nat} : Pl k .non := by cases k <;> exact True.intro
theorem Pl.int {k : Nat} {i : Int} : Pl k (.int i) := by cases k <;> exact True.intro
theorem Pl.str {k : Nat} {s : Str} (h : PyData.strOk s = true) : Pl k (.str s) := by cases k <;> exact h
theorem Pl.tup {k : Nat} {l : List D} (h : ∀ x ∈ l, Pl k x) : Pl (k + 1) (.tup l) := h
theorem Pl.lst {k : Nat} {l : List D} (h : ∀ x ∈ l, Pl k x) : Pl (k + 1) (.lst l) := h
theorem Pl.le : ∀ {k j : Nat} {d : D}, Pl k d → k ≤ j → Pl j d
  | k, j, .non, _, _ => .non
  | k, j, .int _, _, _ => .int
  | 0, j, .str _, h, _ => .str h
  | k + 1, j, .str _, h, _ => .str h
  | 0, j, .tup l, h, _ => h.elim
  | 0, j, .lst l, h, _ => h.elim
  | k + 1, 0, .tup l, _, hj => absurd hj (by omega)
  | k + 1, 0, .lst l, _, hj => absurd hj (by omega)
  | k + 1, j + 1, .tup l, h, hj => Pl.tup fun x hx => Pl.le (h x hx) (by omega)
  | k + 1, j + 1, .lst l, h, hj => Pl.lst fun x hx => Pl.le (h x hx) (by omega)
  | 0, j, .bl _, h, _ => h.elim
  | k + 1, j, .bl _, h, _ => h.elim
  | 0, j, .arg _, h, _ => h.elim
  | k + 1, j, .arg _, h, _ => h.elim
  | 0, j, .ref _, h, _ => h.elim
  | 0, j, .sp _ _ _, h, _ => h.elim
  | k + 1, j, .ref _, h, _ => h.elim
  | k + 1, j, .sp _ _ _, h, _ => h.elim
theorem pyAll_pl {k : Nat} (ih : ∀ d, Pl k d → ∃ p, d.py = some p ∧ p.canLay0 = true ∧ p.depth ≤ k) : ∀ {l : List D}, (∀ x ∈ l, Pl k x) → ∃ ps, pyAll l = some ps ∧ PyData.canLayAll0 ps = true ∧ PyData.depthAll ps ≤ k
  | [], _ => ⟨[], by simp [pyAll], rfl, Nat.zero_le _⟩
  | x :: l, h => by
    obtain ⟨p, e1, c1, d1⟩ := ih x (h x List.mem_cons_self)
    obtain ⟨ps, e2, c2, d2⟩ := pyAll_pl ih (l := l) fun y hy => h y (List.mem_cons_of_mem _ hy)
    refine ⟨p :: ps, by simp only [pyAll, e1, e2], ?_, ?_⟩
    · simp only [PyData.canLayAll0, c1, c2, Bool.and_self]
    · simp only [PyData.depthAll]; omega
theorem py_pl : ∀ (k : Nat) (d : D), Pl k d → ∃ p, d.py = some p ∧ p.canLay0 = true ∧ p.depth ≤ k
  | k, .non, _ => ⟨.none, by simp [D.py], by simp [PyData.canLay0], by simp [PyData.depth]⟩
  | k, .int i, _ => ⟨.int i, by simp [D.py], by simp [PyData.canLay0], by simp [PyData.depth]⟩
  | k, .str s, h => by
    have h : PyData.strOk s = true := by cases k <;> exact h
    exact ⟨.str s, by simp [D.py], by simp [PyData.canLay0, h], by simp [PyData.depth]⟩
  | k + 1, .tup l, h => by
    obtain ⟨ps, e, c, d⟩ := pyAll_pl (py_pl k) h
    exact ⟨.tuple ps, by simp [D.py, e], by simpa [PyData.canLay0] using c, by simp only [PyData.depth]; omega⟩
  | k + 1, .lst l, h => by
    obtain ⟨ps, e, c, d⟩ := pyAll_pl (py_pl k) h
    exact ⟨.list ps, by simp [D.py, e], by simpa [PyData.canLay0] using c, by simp only [PyData.depth]; omega⟩
  | 0, .tup l, h => h.elim
  | 0, .lst l, h => h.elim
  | 0, .bl _, h => h.elim
  | k + 1, .bl _, h => h.elim
  | 0, .arg _, h => h.elim
  | k + 1, .arg _, h => h.elim
  | 0, .ref _, h => h.elim
  | 0, .sp _ _ _, h => h.elim
  | k + 1, .ref _, h => h.elim
  | k + 1, .sp _ _ _, h => h.elim
theorem eqvAll_pl {k : Nat} (ih : ∀ x y p q, Pl k x → Pl k y → x.py = some p → y.py = some q → PyData.eqv p q = decide (x = y)) :
    ∀ {l m : List D} {ps qs : List PyData}, (∀ x ∈ l, Pl k x) → (∀ x ∈ m, Pl k x) → pyAll l = some ps → pyAll m = some qs → PyData.eqvAll ps qs = decide (l = m)
  | [], [], ps, qs, _, _, e1, e2 => by simp [pyAll] at e1 e2; subst e1; subst e2; simp [PyData.eqvAll]
  | [], y :: m, ps, qs, _, hm, e1, e2 => by
    simp only [pyAll] at e1 e2
    cases a1 : y.py <;> cases a2 : pyAll m <;> simp [a1, a2] at e2
    simp at e1; subst e1; subst e2; simp [PyData.eqvAll]
  | x :: l, [], ps, qs, hl, _, e1, e2 => by
    simp only [pyAll] at e1 e2
    cases a1 : x.py <;> cases a2 : pyAll l <;> simp [a1, a2] at e1
    simp at e2; subst e1; subst e2; simp [PyData.eqvAll]
  | x :: l, y :: m, ps, qs, hl, hm, e1, e2 => by
    simp only [pyAll] at e1 e2
    cases a1 : x.py <;> cases a2 : pyAll l <;> simp [a1, a2] at e1
    cases b1 : y.py <;> cases b2 : pyAll m <;> simp [b1, b2] at e2
    subst e1; subst e2
    rw [PyData.eqvAll, ih x y _ _ (hl x List.mem_cons_self) (hm y List.mem_cons_self) a1 b1,
      eqvAll_pl ih (fun z hz => hl z (List.mem_cons_of_mem _ hz)) (fun z hz => hm z (List.mem_cons_of_mem _ hz)) a2 b2]
    by_cases h1 : x = y <;> by_cases h2 : l = m <;> simp [h1, h2]
theorem py_tup {l : List D} {p : PyData} (e : (D.tup l).py = some p) : ∃ ps, pyAll l = some ps ∧ p = .tuple ps := by
  simp only [D.py] at e
  cases a : pyAll l <;> simp [a] at e
  exact ⟨_, rfl, e.symm⟩
theorem py_lst {l : List D} {p : PyData} (e : (D.lst l).py = some p) : ∃ ps, pyAll l = some ps ∧ p = .list ps := by
  simp only [D.py] at e
  cases a : pyAll l <;> simp [a] at e
  exact ⟨_, rfl, e.symm⟩
theorem py_non {p : PyData} (e : D.non.py = some p) : p = .none := by simp only [D.py] at e; cases e; rfl
theorem py_int {i : Int} {p : PyData} (e : (D.int i).py = some p) : p = .int i := by simp only [D.py] at e; cases e; rfl
theorem py_str {i : Str} {p : PyData} (e : (D.str i).py = some p) : p = .str i := by simp only [D.py] at e; cases e; rfl
theorem eqv_pl : ∀ (k : Nat) (x y : D) (p q : PyData), Pl k x → Pl k y → x.py = some p → y.py = some q → PyData.eqv p q = decide (x = y) := by
  intro k
  induction k with
  | zero =>
    intro x y p q hx hy e1 e2
    cases x <;> cases y <;> first | exact hx.elim | exact hy.elim | skip
    all_goals
      first | rw [py_non e1] | rw [py_int e1] | rw [py_str e1]
      first | rw [py_non e2] | rw [py_int e2] | rw [py_str e2]
      simp [PyData.eqv]
      try rfl
  | succ k ih =>
    intro x y p q hx hy e1 e2
    cases x <;> cases y <;> first | exact hx.elim | exact hy.elim | skip
    all_goals
      first | rw [py_non e1] | rw [py_int e1] | rw [py_str e1] | (obtain ⟨ps, a1, rfl⟩ := py_tup e1) | (obtain ⟨ps, a1, rfl⟩ := py_lst e1)
      first | rw [py_non e2] | rw [py_int e2] | rw [py_str e2] | (obtain ⟨qs, a2, rfl⟩ := py_tup e2) | (obtain ⟨qs, a2, rfl⟩ := py_lst e2)
      first
        | (rw [PyData.eqv, eqvAll_pl ih hx hy (by assumption) (by assumption)]; simp)
        | (simp [PyData.eqv]; try rfl)
/-- an answer as data -/
def R.d : R → D
  | .dat d => d
  | .new l => .lst l
  | .bor l => .lst l
theorem pyH_d {h : Hh} {x : R} {k : Nat} (hx : Pl k x.d) : x.pyH h = x.d.py := by
  cases x with
  | dat d =>
    cases d with
    | ref n => cases k <;> exact hx.elim
    | _ => rfl
  | new l => simp only [R.pyH, R.py, R.d, D.py]
  | bor l => simp only [R.pyH, R.py, R.d, D.py]
theorem eqF_gen {h : Hh} {x y : R} (hx : Pl 60 x.d) (hy : Pl 60 y.d) : (match x.pyH h, y.pyH h with
    | some a, some b => if SeqAt.shaped a && SeqAt.shaped b then some (PyData.eqv a b) else none
    | _, _ => none) = some (decide (x.d = y.d)) := by
  obtain ⟨p, e1, c1, d1⟩ := py_pl 60 x.d hx
  obtain ⟨q, e2, c2, d2⟩ := py_pl 60 y.d hy
  rw [pyH_d hx, pyH_d hy, e1, e2]
  show (if (SeqAt.shaped p && SeqAt.shaped q) = true then some (PyData.eqv p q) else none) = _
  rw [if_pos (by simp only [SeqAt.shaped, c1, c2, Bool.true_and, Bool.and_eq_true, decide_eq_true_eq]; omega), eqv_pl 60 x.d y.d p q hx hy e1 e2]
theorem eqF_pl {h : Hh} {x y : R} (hx : Pl 60 x.d) (hy : Pl 60 y.d) : eqF h x y = some (decide (x.d = y.d)) := by
  unfold eqF
  split
  · rename_i a b
    simp [R.d]
  · rename_i a
    cases a <;> simp [R.d]
  · rename_i a
    cases a <;> simp [R.d]
  · exact eqF_gen hx hy
section
variable {h : Hh} {Q : R → Hh → Prop} {QL : List D → Hh → Prop}
theorem w_neP {x y : R} (hx : Pl 60 x.d) (hy : Pl 60 y.d) (p : Q (.dat (.bl (!decide (x.d = y.d)))) h) : evX X (ofR h (cmpF h .ne x y) fun b => R.dat (.bl b)) Q := by
  refine w_ofR (a := !decide (x.d = y.d)) ?_ p
  show (eqF h x y).map (!·) = _
  rw [eqF_pl hx hy]; rfl
theorem w_eqS {a b : Str} (p : Q (.dat (.bl (decide (a = b)))) h) : evX X (ofR h (cmpF h .eq (.dat (.str a)) (.dat (.str b))) fun b => R.dat (.bl b)) Q := w_ofR (a := decide (a = b)) rfl p
theorem w_neSt {a b : Str} (p : Q (.dat (.bl (!decide (a = b)))) h) : evX X (ofR h (cmpF h .ne (.dat (.str a)) (.dat (.str b))) fun b => R.dat (.bl b)) Q := w_ofR (a := !decide (a = b)) rfl p
theorem w_neI {i j : Int} (p : Q (.dat (.bl (!decide (i = j)))) h) : evX X (ofR h (cmpF h .ne (.dat (.int i)) (.dat (.int j))) fun b => R.dat (.bl b)) Q := by
  refine w_neP (x := .dat (.int i)) (y := .dat (.int j)) .int .int ?_
  simpa [R.d] using p
/-! tuples -/
theorem w_addT {a b : List D} (z : a.length + b.length ≤ big) (p : Q (.dat (.tup (a ++ b))) h) : evX X (Res.of h (binF h .add (.dat (.tup a)) (.dat (.tup b)))) Q := by
  refine w_of (a := .dat (.tup (a ++ b))) ?_ p
  show (if a.length + b.length ≤ sizeLine then _ else _) = _
  rw [if_pos (by rw [sizeLine_eq]; rw [big_eq] at z; omega)]
theorem w_lenT {l : List D} (p : Q (.dat (.int l.length)) h) : evX X (Res.of h (bltF h .len [.tup l])) Q := w_of rfl p
theorem w_lenLs {l : List D} (p : Q (.dat (.int l.length)) h) : evX X (Res.of h (bltF h .len [.lst l])) Q := w_of rfl p
theorem w_ixT {l : List D} {i : Int} {d : D} (e : atI l i = some d) (p : Q (.dat d) h) : evX X (ofR h (ixF h (.dat (.tup l)) (.dat (.int i))) .dat) Q := w_ofR e p
theorem w_slT {l : List D} {lo hi : Option Int} (p : Q (.dat (.tup (cutD l lo hi))) h) : evX X (Res.of h (slF h lo hi (.dat (.tup l)))) Q := w_of rfl p
theorem w_slL {l : List D} {lo hi : Option Int} (p : Q (.new (cutD l lo hi)) h) : evX X (Res.of h (slF h lo hi (.dat (.lst l)))) Q := w_of rfl p
theorem w_tupN {l : List D} (p : Q (.dat (.tup l)) h) : evX X (Res.of h (bltF h .toTuple [.lst l])) Q := w_of rfl p
theorem w_seqT {l : List D} (p : QL l h) : evX X (Res.of h (itF (.dat (.tup l)))) QL := w_of rfl p
theorem w_seqL {l : List D} (p : QL l h) : evX X (Res.of h (itF (.dat (.lst l)))) QL := w_of rfl p
theorem w_seqN {l : List D} (p : QL l h) : evX X (Res.of h (itF (.new l))) QL := w_of rfl p
theorem w_intB {b : Bool} (p : Q (.dat (.int (if b then 1 else 0))) h) : evX X (Res.of h (bltF h .toInt [.bl b])) Q := w_of rfl p
theorem w_intI {i : Int} (p : Q (.dat (.int i)) h) : evX X (Res.of h (bltF h .toInt [.int i])) Q := w_of rfl p
end
theorem cut_to {l : List D} {i : Int} (h : 0 ≤ i) : cutD l none (some i) = l.take i.toNat := by
  unfold cutD HT.sIx
  dsimp only
  simp only [List.drop_zero]
  rw [if_neg (by omega)]
  by_cases hi : i.toNat ≤ l.length
  · congr 1; simp only [Nat.sub_zero]; omega
  · rw [List.take_of_length_le (by omega), List.take_of_length_le (by omega)]
theorem cut_from {l : List D} {i : Int} (h : 0 ≤ i) : cutD l (some i) none = l.drop i.toNat := by
  unfold cutD HT.sIx
  dsimp only
  rw [if_neg (by omega)]
  by_cases hi : i.toNat ≤ l.length
  · rw [show min i.toNat l.length = i.toNat by omega]
    rw [List.take_of_length_le (by rw [List.length_drop]; omega)]
  · rw [show min i.toNat l.length = l.length by omega]
    rw [List.drop_of_length_le (by omega), List.drop_of_length_le (by omega)]; simp
theorem cut_toN {l : List D} {m : Nat} : cutD l none (some ((m : Nat) : Int)) = l.take m := by rw [cut_to (Int.natCast_nonneg m), Int.toNat_natCast]
theorem cut_fromN {l : List D} {m : Nat} : cutD l (some ((m : Nat) : Int)) none = l.drop m := by rw [cut_from (Int.natCast_nonneg m), Int.toNat_natCast]
section
variable {h : Hh} {Q : R → Hh → Prop}
theorem w_notT (p : Q (.dat (.bl false)) h) : evX X (notR (.dat (.bl true)) h) Q := p
theorem w_notF (p : Q (.dat (.bl true)) h) : evX X (notR (.dat (.bl false)) h) Q := p
theorem w_brd {α : Type} {c : Prop} [Decidable c] {a b : Res α} {QA : α → Hh → Prop} (e : c) (p : evX X a QA) : evX X (brR (.dat (.bl (decide c))) a b) QA := by rw [decide_eq_true e]; exact p
theorem w_brn {α : Type} {c : Prop} [Decidable c] {a b : Res α} {QA : α → Hh → Prop} (e : ¬ c) (p : evX X b QA) : evX X (brR (.dat (.bl (decide c))) a b) QA := by rw [decide_eq_false e]; exact p
theorem w_brp {α : Type} {c : Bool} {a b : Res α} {QA : α → Hh → Prop} (e : c = true) (p : evX X a QA) : evX X (brR (.dat (.bl c)) a b) QA := by rw [e]; exact p
theorem w_brq {α : Type} {c : Bool} {a b : Res α} {QA : α → Hh → Prop} (e : c = false) (p : evX X b QA) : evX X (brR (.dat (.bl c)) a b) QA := by rw [e]; exact p
theorem w_brnd {α : Type} {c : Prop} [Decidable c] {a b : Res α} {QA : α → Hh → Prop} (e : c) (p : evX X b QA) : evX X (brR (.dat (.bl (!decide c))) a b) QA := by rw [decide_eq_true e]; exact p
theorem w_brnn {α : Type} {c : Prop} [Decidable c] {a b : Res α} {QA : α → Hh → Prop} (e : ¬ c) (p : evX X a QA) : evX X (brR (.dat (.bl (!decide c))) a b) QA := by rw [decide_eq_false e]; exact p
theorem w_isi_int_non (p : Q (.dat (.bl false)) h) : evX X (ofR h (isiF h .int (.non)) fun b => R.dat (.bl b)) Q := w_ofR (a := false) rfl p
theorem w_isi_int_bl {b : Bool} (p : Q (.dat (.bl true)) h) : evX X (ofR h (isiF h .int (.bl b)) fun b => R.dat (.bl b)) Q := w_ofR (a := true) rfl p
theorem w_isi_int_int {i : Int} (p : Q (.dat (.bl true)) h) : evX X (ofR h (isiF h .int (.int i)) fun b => R.dat (.bl b)) Q := w_ofR (a := true) rfl p
theorem w_isi_int_str {s : Str} (p : Q (.dat (.bl false)) h) : evX X (ofR h (isiF h .int (.str s)) fun b => R.dat (.bl b)) Q := w_ofR (a := false) rfl p
theorem w_isi_int_tup {l : List D} (p : Q (.dat (.bl false)) h) : evX X (ofR h (isiF h .int (.tup l)) fun b => R.dat (.bl b)) Q := w_ofR (a := false) rfl p
theorem w_isi_int_lst {l : List D} (p : Q (.dat (.bl false)) h) : evX X (ofR h (isiF h .int (.lst l)) fun b => R.dat (.bl b)) Q := w_ofR (a := false) rfl p
theorem w_isi_bool_non (p : Q (.dat (.bl false)) h) : evX X (ofR h (isiF h .bool (.non)) fun b => R.dat (.bl b)) Q := w_ofR (a := false) rfl p
theorem w_isi_bool_bl {b : Bool} (p : Q (.dat (.bl true)) h) : evX X (ofR h (isiF h .bool (.bl b)) fun b => R.dat (.bl b)) Q := w_ofR (a := true) rfl p
theorem w_isi_bool_int {i : Int} (p : Q (.dat (.bl false)) h) : evX X (ofR h (isiF h .bool (.int i)) fun b => R.dat (.bl b)) Q := w_ofR (a := false) rfl p
theorem w_isi_bool_str {s : Str} (p : Q (.dat (.bl false)) h) : evX X (ofR h (isiF h .bool (.str s)) fun b => R.dat (.bl b)) Q := w_ofR (a := false) rfl p
theorem w_isi_bool_tup {l : List D} (p : Q (.dat (.bl false)) h) : evX X (ofR h (isiF h .bool (.tup l)) fun b => R.dat (.bl b)) Q := w_ofR (a := false) rfl p
theorem w_isi_bool_lst {l : List D} (p : Q (.dat (.bl false)) h) : evX X (ofR h (isiF h .bool (.lst l)) fun b => R.dat (.bl b)) Q := w_ofR (a := false) rfl p
theorem w_isi_str_non (p : Q (.dat (.bl false)) h) : evX X (ofR h (isiF h .str (.non)) fun b => R.dat (.bl b)) Q := w_ofR (a := false) rfl p
theorem w_isi_str_bl {b : Bool} (p : Q (.dat (.bl false)) h) : evX X (ofR h (isiF h .str (.bl b)) fun b => R.dat (.bl b)) Q := w_ofR (a := false) rfl p
theorem w_isi_str_int {i : Int} (p : Q (.dat (.bl false)) h) : evX X (ofR h (isiF h .str (.int i)) fun b => R.dat (.bl b)) Q := w_ofR (a := false) rfl p
theorem w_isi_str_str {s : Str} (p : Q (.dat (.bl true)) h) : evX X (ofR h (isiF h .str (.str s)) fun b => R.dat (.bl b)) Q := w_ofR (a := true) rfl p
theorem w_isi_str_tup {l : List D} (p : Q (.dat (.bl false)) h) : evX X (ofR h (isiF h .str (.tup l)) fun b => R.dat (.bl b)) Q := w_ofR (a := false) rfl p
theorem w_isi_str_lst {l : List D} (p : Q (.dat (.bl false)) h) : evX X (ofR h (isiF h .str (.lst l)) fun b => R.dat (.bl b)) Q := w_ofR (a := false) rfl p
theorem w_isi_tuple_non (p : Q (.dat (.bl false)) h) : evX X (ofR h (isiF h .tuple (.non)) fun b => R.dat (.bl b)) Q := w_ofR (a := false) rfl p
theorem w_isi_tuple_bl {b : Bool} (p : Q (.dat (.bl false)) h) : evX X (ofR h (isiF h .tuple (.bl b)) fun b => R.dat (.bl b)) Q := w_ofR (a := false) rfl p
theorem w_isi_tuple_int {i : Int} (p : Q (.dat (.bl false)) h) : evX X (ofR h (isiF h .tuple (.int i)) fun b => R.dat (.bl b)) Q := w_ofR (a := false) rfl p
theorem w_isi_tuple_str {s : Str} (p : Q (.dat (.bl false)) h) : evX X (ofR h (isiF h .tuple (.str s)) fun b => R.dat (.bl b)) Q := w_ofR (a := false) rfl p
theorem w_isi_tuple_tup {l : List D} (p : Q (.dat (.bl true)) h) : evX X (ofR h (isiF h .tuple (.tup l)) fun b => R.dat (.bl b)) Q := w_ofR (a := true) rfl p
theorem w_isi_tuple_lst {l : List D} (p : Q (.dat (.bl false)) h) : evX X (ofR h (isiF h .tuple (.lst l)) fun b => R.dat (.bl b)) Q := w_ofR (a := false) rfl p
theorem w_isi_list_non (p : Q (.dat (.bl false)) h) : evX X (ofR h (isiF h .list (.non)) fun b => R.dat (.bl b)) Q := w_ofR (a := false) rfl p
theorem w_isi_list_bl {b : Bool} (p : Q (.dat (.bl false)) h) : evX X (ofR h (isiF h .list (.bl b)) fun b => R.dat (.bl b)) Q := w_ofR (a := false) rfl p
theorem w_isi_list_int {i : Int} (p : Q (.dat (.bl false)) h) : evX X (ofR h (isiF h .list (.int i)) fun b => R.dat (.bl b)) Q := w_ofR (a := false) rfl p
theorem w_isi_list_str {s : Str} (p : Q (.dat (.bl false)) h) : evX X (ofR h (isiF h .list (.str s)) fun b => R.dat (.bl b)) Q := w_ofR (a := false) rfl p
theorem w_isi_list_tup {l : List D} (p : Q (.dat (.bl false)) h) : evX X (ofR h (isiF h .list (.tup l)) fun b => R.dat (.bl b)) Q := w_ofR (a := false) rfl p
theorem w_isi_list_lst {l : List D} (p : Q (.dat (.bl true)) h) : evX X (ofR h (isiF h .list (.lst l)) fun b => R.dat (.bl b)) Q := w_ofR (a := true) rfl p
end
end Mi
/-! Mi16: endless rows, plain: a stem and a round; the lean one is the only one of its things. -/
namespace Mi
section
open Classical
variable {α : Type}
/-- a round's things, round and round -/
def cyc (a : List α) (i : Nat) : Option α := a[i % a.length]?
/-- the things of a stem and a round, one by one -/
def strm (s a : List α) (i : Nat) : Option α := if i < s.length then s[i]? else cyc a (i - s.length)
theorem cyc_lt {a : List α} {i : Nat} (h : i < a.length) : cyc a i = a[i]? := by unfold cyc; rw [Nat.mod_eq_of_lt h]
theorem cyc_add {a : List α} (i : Nat) : cyc a (i + a.length) = cyc a i := by unfold cyc; rw [Nat.add_mod_right]
/-- a shorter round, told over, is the round -/
def hasP (a : List α) (m : Nat) : Prop := 0 < m ∧ m < a.length ∧ a.length % m = 0 ∧ (List.replicate (a.length / m) (a.take m)).flatten = a
def prim (a : List α) : Prop := ∀ m, ¬ hasP a m
theorem get_rep {b : List α} (hb : 0 < b.length) : ∀ (k i : Nat), i < k * b.length → (List.replicate k b).flatten[i]? = b[i % b.length]?
  | 0, i, h => by simp at h
  | k + 1, i, h => by
    rw [List.replicate_succ, List.flatten_cons]
    by_cases hi : i < b.length
    · rw [List.getElem?_append_left hi, Nat.mod_eq_of_lt hi]
    · rw [List.getElem?_append_right (by omega), get_rep hb k (i - b.length) (by rw [Nat.add_mul, Nat.one_mul] at h; omega), ← Nat.mod_eq_sub_mod (by omega)]
theorem rep_len {b : List α} (k : Nat) : (List.replicate k b).flatten.length = k * b.length := by
  induction k with
  | zero => simp
  | succ k ih => rw [List.replicate_succ, List.flatten_cons, List.length_append, ih, Nat.succ_mul]; omega
theorem hasP_cyc {a : List α} {m : Nat} (h : hasP a m) (i : Nat) : cyc (a.take m) i = cyc a i := by
  obtain ⟨h0, h1, h2, h3⟩ := h
  have hl : (a.take m).length = m := by rw [List.length_take]; omega
  have hd : a.length / m * m = a.length := Nat.div_mul_cancel (Nat.dvd_of_mod_eq_zero h2)
  have e : cyc a i = (a.take m)[(i % a.length) % m]? := by
    unfold cyc
    conv => lhs; rw [← h3]
    rw [show (List.replicate (a.length / m) (a.take m)).flatten.length = a.length by rw [rep_len, hl, hd]]
    rw [get_rep (by omega) _ _ (by rw [hl, hd]; exact Nat.mod_lt _ (by omega)), hl]
  rw [e]
  unfold cyc
  rw [hl, Nat.mod_mod_of_dvd _ (Nat.dvd_of_mod_eq_zero h2)]
theorem hasP_iff {a : List α} {m : Nat} : hasP a m ↔ 0 < m ∧ m < a.length ∧ m ∣ a.length ∧ ∀ i, cyc a (i + m) = cyc a i := by
  constructor
  · intro h
    refine ⟨h.1, h.2.1, Nat.dvd_of_mod_eq_zero h.2.2.1, fun i => ?_⟩
    have hl : (a.take m).length = m := by rw [List.length_take]; have := h.2.1; omega
    rw [← hasP_cyc h, ← hasP_cyc h]
    have := cyc_add (a := a.take m) i
    rwa [hl] at this
  · rintro ⟨h0, h1, h2, h3⟩
    refine ⟨h0, h1, Nat.mod_eq_zero_of_dvd h2, ?_⟩
    have hl : (a.take m).length = m := by rw [List.length_take]; omega
    have hd : a.length / m * m = a.length := Nat.div_mul_cancel h2
    have back : ∀ k i, cyc a (i + k * m) = cyc a i := by
      intro k
      induction k with
      | zero => intro i; simp
      | succ k ih => intro i; rw [Nat.succ_mul, ← Nat.add_assoc, h3, ih]
    refine List.ext_getElem? fun i => ?_
    by_cases hi : i < a.length
    · rw [get_rep (by omega) _ _ (by rw [hl, hd]; exact hi), hl, List.getElem?_take_of_lt (Nat.mod_lt _ h0), ← cyc_lt hi, ← cyc_lt (Nat.lt_trans (Nat.mod_lt i h0) h1)]
      conv => rhs; rw [← Nat.mod_add_div i m, Nat.mul_comm]
      rw [back]
    · rw [List.getElem?_eq_none (by rw [rep_len, hl, hd]; omega), List.getElem?_eq_none (by omega)]
def isLean (s a : List α) : Prop := a ≠ [] ∧ prim a ∧ (s = [] ∨ s.getLast? ≠ a.getLast?)
theorem strm_ge {s a : List α} {i : Nat} (h : s.length ≤ i) : strm s a i = cyc a (i - s.length) := by unfold strm; rw [if_neg (by omega)]
theorem strm_lt {s a : List α} {i : Nat} (h : i < s.length) : strm s a i = s[i]? := by unfold strm; rw [if_pos h]
/-! ### the least round -/
noncomputable def leastR (a : List α) : List α := match (List.range a.length).find? (fun m => decide (hasP a m)) with
  | some m => a.take m
  | none => a
theorem leastR_cases (a : List α) : (∃ m, hasP a m ∧ (∀ j, j < m → ¬ hasP a j) ∧ leastR a = a.take m) ∨ ((∀ m, ¬ hasP a m) ∧ leastR a = a) := by
  unfold leastR
  cases e : (List.range a.length).find? (fun m => decide (hasP a m)) with
  | none =>
    refine .inr ⟨fun m hm => ?_, rfl⟩
    rw [List.find?_eq_none] at e
    exact e m (List.mem_range.mpr hm.2.1) (decide_eq_true hm)
  | some m =>
    refine .inl ⟨m, by simpa using List.find?_some e, fun j hj hp => ?_, rfl⟩
    rw [List.find?_range_eq_some] at e
    have := e.2.2 j hj
    simp [hp] at this
theorem leastR_ok {a : List α} (h : a ≠ []) : leastR a ≠ [] ∧ prim (leastR a) ∧ cyc (leastR a) = cyc a ∧ (leastR a).length ≤ a.length ∧ (∀ x ∈ leastR a, x ∈ a) := by
  rcases leastR_cases a with ⟨m, hm, least, e⟩ | ⟨no, e⟩
  · rw [e]
    have hl : (a.take m).length = m := by rw [List.length_take]; have := hm.2.1; omega
    refine ⟨fun z => ?_, fun j hj => ?_, funext (hasP_cyc hm), by rw [List.length_take]; omega, fun x hx => List.mem_of_mem_take hx⟩
    · have := congrArg List.length z
      rw [hl] at this
      have := hm.1
      simp at *; omega
    · have hj' := hasP_iff.mp hj
      rw [hl] at hj'
      refine least j hj'.2.1 (hasP_iff.mpr ⟨hj'.1, Nat.lt_trans hj'.2.1 hm.2.1, Nat.dvd_trans hj'.2.2.1 (hasP_iff.mp hm).2.2.1, fun i => ?_⟩)
      rw [← hasP_cyc hm, ← hasP_cyc hm]
      exact hj'.2.2.2 i
  · rw [e]
    exact ⟨h, no, rfl, Nat.le_refl _, fun _ hx => hx⟩
/-! ### turning a round back -/
def rotR (a : List α) : List α := a.drop (a.length - 1) ++ a.dropLast
theorem rotR_len {a : List α} : (rotR a).length = a.length := by unfold rotR; simp <;> omega
theorem rotR_cyc {a : List α} (h : a ≠ []) (i : Nat) : cyc (rotR a) (i + 1) = cyc a i := by
  have hp : 0 < a.length := List.length_pos_iff.mpr h
  unfold cyc
  rw [rotR_len]
  have hi := Nat.mod_lt i hp
  have hd : (a.drop (a.length - 1)).length = 1 := by rw [List.length_drop]; omega
  unfold rotR
  by_cases e : i % a.length + 1 = a.length
  · have : (i + 1) % a.length = 0 := by
      have q := Nat.div_add_mod i a.length
      have q2 : i + 1 = a.length * (i / a.length + 1) := by rw [Nat.mul_add]; omega
      rw [q2, Nat.mul_mod_right]
    rw [this, List.getElem?_append_left (by omega), List.getElem?_drop]
    congr 1 <;> omega
  · have : (i + 1) % a.length = i % a.length + 1 := by
      have q := Nat.div_add_mod i a.length
      have q2 : i + 1 = a.length * (i / a.length) + (i % a.length + 1) := by omega
      rw [q2, Nat.mul_add_mod, Nat.mod_eq_of_lt (by omega)]
    rw [this, List.getElem?_append_right (by omega), hd, List.getElem?_dropLast, if_pos (by omega)]
    congr 1
theorem rotR_ne {a : List α} (h : a ≠ []) : rotR a ≠ [] := fun z => h (List.eq_nil_of_length_eq_zero (by rw [← rotR_len, z]; rfl))
theorem rotR_prim {a : List α} (h : a ≠ []) (p : prim a) : prim (rotR a) := fun m hm => by
  have hm := hasP_iff.mp hm
  rw [rotR_len] at hm
  refine p m (hasP_iff.mpr ⟨hm.1, hm.2.1, hm.2.2.1, fun i => ?_⟩)
  rw [← rotR_cyc h, ← rotR_cyc h, show i + m + 1 = i + 1 + m by omega]
  exact hm.2.2.2 (i + 1)
theorem rotR_mem {a : List α} {x : α} (hx : x ∈ rotR a) : x ∈ a := by
  unfold rotR at hx
  rcases List.mem_append.mp hx with q | q
  · exact List.mem_of_mem_drop q
  · exact (List.dropLast_sublist _).subset q
theorem strm_back {s a : List α} (h : a ≠ []) (hs : s ≠ []) (e : s.getLast? = a.getLast?) : strm s.dropLast (rotR a) = strm s a := by
  have hp : 0 < s.length := List.length_pos_iff.mpr hs
  have hq : 0 < a.length := List.length_pos_iff.mpr h
  funext i
  unfold strm
  rw [List.length_dropLast]
  by_cases h1 : i < s.length - 1
  · rw [if_pos h1, if_pos (by omega), List.getElem?_dropLast, if_pos h1]
  · rw [if_neg h1]
    by_cases h2 : i < s.length
    · rw [if_pos h2]
      have : i = s.length - 1 := by omega
      subst this
      rw [Nat.sub_self]
      rw [← List.getLast?_eq_getElem?, e]
      have e0 : cyc (rotR a) 0 = cyc (rotR a) (a.length - 1 + 1) := by
        have := cyc_add (a := rotR a) 0
        rw [rotR_len] at this
        rw [← this]; congr 1 <;> omega
      rw [e0, rotR_cyc h, cyc_lt (by omega), List.getLast?_eq_getElem?]
    · rw [if_neg h2, show i - (s.length - 1) = i - s.length + 1 by omega, rotR_cyc h]
noncomputable def leanW (s a : List α) : List α × List α := if h : s ≠ [] ∧ s.getLast? = a.getLast? then leanW s.dropLast (rotR a) else (s, a)
  termination_by s.length
  decreasing_by have := List.length_pos_iff.mpr h.1; rw [List.length_dropLast]; omega
theorem leanW_ok : ∀ (n : Nat) {s a : List α}, s.length = n → a ≠ [] → prim a →
    isLean (leanW s a).1 (leanW s a).2 ∧ strm (leanW s a).1 (leanW s a).2 = strm s a ∧ (leanW s a).1.length ≤ s.length ∧ (leanW s a).2.length = a.length ∧ (∀ x ∈ (leanW s a).1, x ∈ s) ∧ (∀ x ∈ (leanW s a).2, x ∈ a)
  | n, s, a, hn, h, hp => by
    unfold leanW
    by_cases q : s ≠ [] ∧ s.getLast? = a.getLast?
    · rw [dif_pos q]
      have hl : 0 < s.length := List.length_pos_iff.mpr q.1
      obtain ⟨i1, i2, i3, i4, i5, i6⟩ := leanW_ok (n - 1) (s := s.dropLast) (a := rotR a) (by rw [List.length_dropLast]; omega) (rotR_ne h) (rotR_prim h hp)
      refine ⟨i1, by rw [i2, strm_back h q.1 q.2], ?_, by rw [i4, rotR_len], fun x hx => (List.dropLast_sublist _).subset (i5 x hx), fun x hx => rotR_mem (i6 x hx)⟩
      rw [List.length_dropLast] at i3; omega
    · rw [dif_neg q]
      refine ⟨⟨h, hp, ?_⟩, rfl, Nat.le_refl _, rfl, fun _ hx => hx, fun _ hx => hx⟩
      by_cases hs : s = []
      · exact .inl hs
      · exact .inr fun z => q ⟨hs, z⟩
  termination_by n => n
  decreasing_by have := List.length_pos_iff.mpr q.1; omega
noncomputable def leaned (s a : List α) : List α × List α := leanW s (leastR a)
theorem strm_cyc {s a b : List α} (h : cyc a = cyc b) : strm s a = strm s b := by funext i; unfold strm; rw [h]
theorem leaned_ok {s a : List α} (h : a ≠ []) : isLean (leaned s a).1 (leaned s a).2 ∧ strm (leaned s a).1 (leaned s a).2 = strm s a ∧ (leaned s a).1.length ≤ s.length ∧ (leaned s a).2.length ≤ a.length ∧ (∀ x ∈ (leaned s a).1, x ∈ s) ∧ (∀ x ∈ (leaned s a).2, x ∈ a) := by
  obtain ⟨l1, l2, l3, l4, l5⟩ := leastR_ok h
  obtain ⟨i1, i2, i3, i4, i5, i6⟩ := leanW_ok s.length (s := s) rfl l1 l2
  exact ⟨i1, by rw [show leaned s a = leanW s (leastR a) from rfl, i2, strm_cyc l3], i3, by rw [show leaned s a = leanW s (leastR a) from rfl, i4]; exact l4, i5, fun x hx => l5 x (i6 x hx)⟩
/-! ### things taken off -/
end
end Mi
/-! Mi17: worths and endless rows looked at, taken apart. -/
namespace Mi
open PySem PySem.Spec PyProof.Rows L2
variable {X : Exc → Hh → Prop}
def fn_is_leaf : Fn := ⟨1, 1, (.cons (.ret (.call "is_among" (.cons (.var 0) (.cons (.con (.int 0)) (.cons (.glo "MOST_LEAF") .nil))))) .nil)⟩
def fn_size_within : Fn := ⟨2, 5, (.cons (.ifs (.call "is_leaf" (.cons (.var 0) .nil)) (.cons (.ret (.ite (.cmp .gt (.var 1) (.con (.int 0))) (.con (.int 1)) (.con (.int 0)))) .nil) .nil) (.cons (.ifs (.or2 (.cmp .eq (.var 1) (.con (.int 0))) (.or2 (.not1 (.isi (.var 0) .tuple)) (.cmp .gt (.blt .len (.cons (.var 0) .nil)) (.glo "MOST_THINGS")))) (.cons (.ret (.con (.int 0))) .nil) .nil) (.cons (.asg 2 (.con (.int 1))) (.cons (.for' (.nm 3) (.seq (.var 0)) (.cons (.asg 4 (.call "size_within" (.cons (.var 3) (.cons (.bin .sub (.var 1) (.con (.int 1))) .nil)))) (.cons (.asg 2 (.bin .add (.var 2) (.var 4))) (.cons (.ifs (.or2 (.cmp .eq (.var 4) (.con (.int 0))) (.cmp .gt (.var 2) (.glo "MOST_SIZE"))) (.cons (.ret (.con (.int 0))) .nil) .nil) .nil)))) (.cons (.ret (.var 2)) .nil)))))⟩
end Mi
local macro_rules | `(tactic| walk_at "one") => `(tactic| fail)
local macro_rules | `(tactic| walk_at "one") => `(tactic| ((with_reducible refine' Mi.w_brq ?e ?_); case e => assumption))
local macro_rules | `(tactic| walk_at "one") => `(tactic| ((with_reducible refine' Mi.w_brp ?e ?_); case e => assumption))
local macro_rules | `(tactic| walk_at "one") => `(tactic| ((with_reducible refine' Mi.w_brnn ?e ?_); case e => omega))
local macro_rules | `(tactic| walk_at "one") => `(tactic| ((with_reducible refine' Mi.w_brnd ?e ?_); case e => omega))
local macro_rules | `(tactic| walk_at "one") => `(tactic| ((with_reducible refine' Mi.w_brn ?e ?_); case e => omega))
local macro_rules | `(tactic| walk_at "one") => `(tactic| ((with_reducible refine' Mi.w_brd ?e ?_); case e => omega))
local macro_rules | `(tactic| walk_at "one") => `(tactic| ((with_reducible refine' Mi.w_ixT ?e ?_); case e => rfl))
local macro_rules | `(tactic| walk_at "one") => `(tactic| (with_reducible refine Mi.v_raise ?_))
local macro_rules | `(tactic| walk_at "one") => `(tactic| (with_reducible refine Mi.w_told ?_))
local macro_rules | `(tactic| walk_at "one") => `(tactic| ((with_reducible refine' Mi.w_callv ?e ?_); case e => rfl))
local macro_rules | `(tactic| walk_at "one") => `(tactic| ((with_reducible refine' Mi.w_attrR ?e ?_); case e => rfl))
local macro_rules | `(tactic| walk_at "one") => `(tactic| (with_reducible refine Mi.w_attr ?_))
local macro_rules | `(tactic| walk_at "one") => `(tactic| (with_reducible refine Mi.w_isx ?_))
local macro_rules | `(tactic| walk_at "one") => `(tactic| (with_reducible refine Mi.w_fnv ?_))
local macro_rules | `(tactic| walk_at "one") => `(tactic| (with_reducible refine Mi.w_zipLN ?_))
local macro_rules | `(tactic| walk_at "one") => `(tactic| (with_reducible refine Mi.w_zipL ?_))
local macro_rules | `(tactic| walk_at "one") => `(tactic| (with_reducible refine Mi.w_zipT ?_))
local macro_rules | `(tactic| walk_at "one") => `(tactic| ((with_reducible refine' Mi.v_ins ?e ?_); case e => rfl))
local macro_rules | `(tactic| walk_at "one") => `(tactic| (with_reducible refine Mi.w_zipNN ?_))
local macro_rules | `(tactic| walk_at "one") => `(tactic| (with_reducible refine Mi.w_zipNL ?_))
local macro_rules | `(tactic| walk_at "one") => `(tactic| (with_reducible refine Mi.w_zipN ?_))
local macro_rules | `(tactic| walk_at "one") => `(tactic| (with_reducible refine Mi.w_zip ?_))
local macro_rules | `(tactic| walk_at "one") => `(tactic| (with_reducible refine Mi.w_min2 ?_))
local macro_rules | `(tactic| walk_at "one") => `(tactic| (with_reducible refine Mi.w_max2 ?_))
local macro_rules | `(tactic| walk_at "one") => `(tactic| (with_reducible refine Mi.w_lrngR2 ?_))
local macro_rules | `(tactic| walk_at "one") => `(tactic| ((with_reducible refine' Mi.w_lrngR ?e ?_); case e => (refine ⟨?_, ?_, ?_, ?_, ?_⟩ <;> omega)))
local macro_rules | `(tactic| walk_at "one") => `(tactic| (with_reducible refine Mi.w_lrng2 ?_))
local macro_rules | `(tactic| walk_at "one") => `(tactic| (with_reducible refine Mi.w_lrng1 ?_))
local macro_rules | `(tactic| walk_at "one") => `(tactic| (with_reducible refine Mi.w_revN ?_))
local macro_rules | `(tactic| walk_at "one") => `(tactic| (with_reducible refine Mi.w_revL ?_))
local macro_rules | `(tactic| walk_at "one") => `(tactic| (with_reducible refine Mi.w_revT ?_))
local macro_rules | `(tactic| walk_at "one") => `(tactic| (with_reducible refine Mi.w_rev ?_))
local macro_rules | `(tactic| walk_at "one") => `(tactic| (with_reducible refine Mi.w_isi_list_lst ?_))
local macro_rules | `(tactic| walk_at "one") => `(tactic| (with_reducible refine Mi.w_isi_list_tup ?_))
local macro_rules | `(tactic| walk_at "one") => `(tactic| (with_reducible refine Mi.w_isi_list_str ?_))
local macro_rules | `(tactic| walk_at "one") => `(tactic| (with_reducible refine Mi.w_isi_list_int ?_))
local macro_rules | `(tactic| walk_at "one") => `(tactic| (with_reducible refine Mi.w_isi_list_bl ?_))
local macro_rules | `(tactic| walk_at "one") => `(tactic| (with_reducible refine Mi.w_isi_list_non ?_))
local macro_rules | `(tactic| walk_at "one") => `(tactic| (with_reducible refine Mi.w_isi_tuple_lst ?_))
local macro_rules | `(tactic| walk_at "one") => `(tactic| (with_reducible refine Mi.w_isi_tuple_tup ?_))
local macro_rules | `(tactic| walk_at "one") => `(tactic| (with_reducible refine Mi.w_isi_tuple_str ?_))
local macro_rules | `(tactic| walk_at "one") => `(tactic| (with_reducible refine Mi.w_isi_tuple_int ?_))
local macro_rules | `(tactic| walk_at "one") => `(tactic| (with_reducible refine Mi.w_isi_tuple_bl ?_))
local macro_rules | `(tactic| walk_at "one") => `(tactic| (with_reducible refine Mi.w_isi_tuple_non ?_))
local macro_rules | `(tactic| walk_at "one") => `(tactic| (with_reducible refine Mi.w_isi_str_lst ?_))
local macro_rules | `(tactic| walk_at "one") => `(tactic| (with_reducible refine Mi.w_isi_str_tup ?_))
local macro_rules | `(tactic| walk_at "one") => `(tactic| (with_reducible refine Mi.w_isi_str_str ?_))
local macro_rules | `(tactic| walk_at "one") => `(tactic| (with_reducible refine Mi.w_isi_str_int ?_))
local macro_rules | `(tactic| walk_at "one") => `(tactic| (with_reducible refine Mi.w_isi_str_bl ?_))
local macro_rules | `(tactic| walk_at "one") => `(tactic| (with_reducible refine Mi.w_isi_str_non ?_))
local macro_rules | `(tactic| walk_at "one") => `(tactic| (with_reducible refine Mi.w_isi_bool_lst ?_))
local macro_rules | `(tactic| walk_at "one") => `(tactic| (with_reducible refine Mi.w_isi_bool_tup ?_))
local macro_rules | `(tactic| walk_at "one") => `(tactic| (with_reducible refine Mi.w_isi_bool_str ?_))
local macro_rules | `(tactic| walk_at "one") => `(tactic| (with_reducible refine Mi.w_isi_bool_int ?_))
local macro_rules | `(tactic| walk_at "one") => `(tactic| (with_reducible refine Mi.w_isi_bool_bl ?_))
local macro_rules | `(tactic| walk_at "one") => `(tactic| (with_reducible refine Mi.w_isi_bool_non ?_))
local macro_rules | `(tactic| walk_at "one") => `(tactic| (with_reducible refine Mi.w_isi_int_lst ?_))
local macro_rules | `(tactic| walk_at "one") => `(tactic| (with_reducible refine Mi.w_isi_int_tup ?_))
local macro_rules | `(tactic| walk_at "one") => `(tactic| (with_reducible refine Mi.w_isi_int_str ?_))
local macro_rules | `(tactic| walk_at "one") => `(tactic| (with_reducible refine Mi.w_isi_int_int ?_))
local macro_rules | `(tactic| walk_at "one") => `(tactic| (with_reducible refine Mi.w_isi_int_bl ?_))
local macro_rules | `(tactic| walk_at "one") => `(tactic| (with_reducible refine Mi.w_isi_int_non ?_))
local macro_rules | `(tactic| walk_at "one") => `(tactic| (with_reducible refine Mi.w_neI ?_))
local macro_rules | `(tactic| walk_at "one") => `(tactic| (with_reducible refine Mi.w_intI ?_))
local macro_rules | `(tactic| walk_at "one") => `(tactic| (with_reducible refine Mi.w_intB ?_))
local macro_rules | `(tactic| walk_at "one") => `(tactic| (with_reducible refine Mi.w_seqN ?_))
local macro_rules | `(tactic| walk_at "one") => `(tactic| (with_reducible refine Mi.w_seqL ?_))
local macro_rules | `(tactic| walk_at "one") => `(tactic| (with_reducible refine Mi.w_seqT ?_))
local macro_rules | `(tactic| walk_at "one") => `(tactic| (with_reducible refine Mi.w_tupN ?_))
local macro_rules | `(tactic| walk_at "one") => `(tactic| (with_reducible refine Mi.w_slL ?_))
local macro_rules | `(tactic| walk_at "one") => `(tactic| (with_reducible refine Mi.w_slT ?_))
local macro_rules | `(tactic| walk_at "one") => `(tactic| (with_reducible refine Mi.w_lenLs ?_))
local macro_rules | `(tactic| walk_at "one") => `(tactic| (with_reducible refine Mi.w_lenT ?_))
local macro_rules | `(tactic| walk_at "one") => `(tactic| ((with_reducible refine' Mi.w_dgetK ?e ?q ?_); (case e => first | assumption | rfl); (case q => rfl); (try dsimp only)))
local macro_rules | `(tactic| walk_at "one") => `(tactic| ((with_reducible refine' Mi.w_varO ?e ?_); case e => rfl))
local macro_rules | `(tactic| walk_at "one") => `(tactic| (with_reducible refine Mi.w_compG ?_))
local macro_rules | `(tactic| walk_at "one") => `(tactic| (with_reducible refine Mi.v_endN ?_))
local macro_rules | `(tactic| walk_at "one") => `(tactic| (with_reducible refine Mi.v_retN ?_))
local macro_rules | `(tactic| walk_at "one") => `(tactic| (with_reducible refine Mi.v_contC ?_))
local macro_rules | `(tactic| walk_at "one") => `(tactic| (with_reducible refine Mi.v_contB ?_))
local macro_rules | `(tactic| walk_at "one") => `(tactic| ((with_reducible refine' Mi.v_frz ?e ?_); case e => rfl))
local macro_rules | `(tactic| walk_at "one") => `(tactic| (with_reducible refine Mi.v_cnt ?_))
local macro_rules | `(tactic| walk_at "one") => `(tactic| (with_reducible refine Mi.v_brk ?_))
local macro_rules | `(tactic| walk_at "one") => `(tactic| (with_reducible refine Mi.v_pass ?_))
local macro_rules | `(tactic| walk_at "one") => `(tactic| (with_reducible refine Mi.v_retn ?_))
local macro_rules | `(tactic| walk_at "one") => `(tactic| ((with_reducible refine' Mi.v_retV ?e ?_); case e => rfl))
local macro_rules | `(tactic| walk_at "one") => `(tactic| (with_reducible refine Mi.v_whl ?_))
local macro_rules | `(tactic| walk_at "one") => `(tactic| (with_reducible refine Mi.v_for ?_))
local macro_rules | `(tactic| walk_at "one") => `(tactic| (with_reducible refine Mi.v_expr ?_))
local macro_rules | `(tactic| walk_at "one") => `(tactic| ((with_reducible refine' Mi.v_ext ?e ?_); case e => rfl))
local macro_rules | `(tactic| walk_at "one") => `(tactic| ((with_reducible refine' Mi.v_app ?e ?_); case e => rfl))
local macro_rules | `(tactic| walk_at "one") => `(tactic| ((with_reducible refine' Mi.v_ownR ?e ?_); case e => rfl))
local macro_rules | `(tactic| walk_at "one") => `(tactic| (with_reducible refine Mi.v_setOwn ?_))
local macro_rules | `(tactic| walk_at "one") => `(tactic| (with_reducible refine Mi.v_setD ?_))
local macro_rules | `(tactic| walk_at "one") => `(tactic| (with_reducible refine Mi.v_setL ?_))
local macro_rules | `(tactic| walk_at "one") => `(tactic| (with_reducible refine Mi.v_asgs ?_))
local macro_rules | `(tactic| walk_at "one") => `(tactic| (with_reducible refine Mi.w_blt1 ?_))
local macro_rules | `(tactic| walk_at "one") => `(tactic| (with_reducible refine Mi.v_anyD ?_))
local macro_rules | `(tactic| walk_at "one") => `(tactic| (with_reducible refine Mi.v_anyN ?_))
local macro_rules | `(tactic| walk_at "one") => `(tactic| (with_reducible refine Mi.v_any ?_))
local macro_rules | `(tactic| walk_at "one") => `(tactic| (with_reducible refine Mi.v_own ?_))
local macro_rules | `(tactic| walk_at "one") => `(tactic| ((with_reducible refine' Mi.w_dctR ?e ?_); case e => decide))
local macro_rules | `(tactic| walk_at "one") => `(tactic| (with_reducible refine Mi.w_dct ?_))
local macro_rules | `(tactic| walk_at "one") => `(tactic| (with_reducible refine Mi.w_proD ?_))
local macro_rules | `(tactic| walk_at "one") => `(tactic| (with_reducible refine Mi.w_proN ?_))
local macro_rules | `(tactic| walk_at "one") => `(tactic| (with_reducible refine Mi.w_promo ?_))
local macro_rules | `(tactic| walk_at "one") => `(tactic| ((with_reducible refine' Mi.w_rngD ?e ?_); case e => exact Mi.rng_ok2 (by omega) (by omega) (by omega) (by omega)))
local macro_rules | `(tactic| walk_at "one") => `(tactic| ((with_reducible refine' Mi.w_rngR ?e ?_); case e => exact Mi.rng_ok2 (by omega) (by omega) (by omega) (by omega)))
local macro_rules | `(tactic| walk_at "one") => `(tactic| ((with_reducible refine' Mi.w_rng1R ?e ?_); case e => exact Mi.rng_ok1 (by omega) (by omega)))
local macro_rules | `(tactic| walk_at "one") => `(tactic| (with_reducible refine Mi.w_enum ?_))
local macro_rules | `(tactic| walk_at "one") => `(tactic| (with_reducible refine Mi.w_rng3 ?_))
local macro_rules | `(tactic| walk_at "one") => `(tactic| (with_reducible refine Mi.w_rng2 ?_))
local macro_rules | `(tactic| walk_at "one") => `(tactic| (with_reducible refine Mi.w_rng1 ?_))
local macro_rules | `(tactic| walk_at "one") => `(tactic| (with_reducible refine Mi.w_seq ?_))
local macro_rules | `(tactic| walk_at "one") => `(tactic| ((with_reducible refine' Mi.w_compO ?e ?_); case e => rfl))
local macro_rules | `(tactic| walk_at "one") => `(tactic| (with_reducible refine Mi.w_comp ?_))
local macro_rules | `(tactic| walk_at "one") => `(tactic| (with_reducible refine Mi.w_mth ?_))
local macro_rules | `(tactic| walk_at "one") => `(tactic| ((with_reducible refine' Mi.w_optR ?e ?_); case e => rfl))
local macro_rules | `(tactic| walk_at "one") => `(tactic| (with_reducible refine Mi.w_newR ?_))
local macro_rules | `(tactic| walk_at "one") => `(tactic| (with_reducible refine Mi.w_tupR ?_))
local macro_rules | `(tactic| walk_at "one") => `(tactic| (with_reducible refine Mi.w_strR ?_))
local macro_rules | `(tactic| walk_at "one") => `(tactic| (with_reducible refine Mi.w_intR ?_))
local macro_rules | `(tactic| walk_at "one") => `(tactic| (with_reducible refine Mi.w_opart ?_))
local macro_rules | `(tactic| walk_at "one") => `(tactic| (with_reducible refine Mi.w_ono ?_))
local macro_rules | `(tactic| walk_at "one") => `(tactic| (with_reducible refine Mi.w_sl ?_))
local macro_rules | `(tactic| walk_at "one") => `(tactic| ((with_reducible refine' Mi.w_glo ?e ?_); case e => (first | assumption | rfl)))
local macro_rules | `(tactic| walk_at "one") => `(tactic| (with_reducible refine Mi.w_fzN ?_))
local macro_rules | `(tactic| walk_at "one") => `(tactic| ((with_reducible refine' Mi.w_lenR ?e ?_); case e => (first | decide | (simp only [List.length_cons, List.length_nil, Nat.zero_add, Nat.reduceAdd]; decide))))
local macro_rules | `(tactic| walk_at "one") => `(tactic| (with_reducible refine Mi.w_lst ?_))
local macro_rules | `(tactic| walk_at "one") => `(tactic| (with_reducible refine Mi.w_tup ?_))
local macro_rules | `(tactic| walk_at "one") => `(tactic| (with_reducible refine Mi.w_negI ?_))
local macro_rules | `(tactic| walk_at "one") => `(tactic| (with_reducible refine Mi.w_neg ?_))
local macro_rules | `(tactic| walk_at "one") => `(tactic| ((with_reducible refine' Mi.w_powI ?e ?_); case e => decide))
local macro_rules | `(tactic| walk_at "one") => `(tactic| ((with_reducible refine' Mi.w_mulI ?e ?_); case e => (first | exact Mi.near_r (by decide) | exact Mi.near_l (by decide) | exact Mi.near_ro (by omega) (by omega) | exact Mi.near_lo (by omega) (by omega))))
local macro_rules | `(tactic| walk_at "one") => `(tactic| ((with_reducible refine' Mi.w_fdivI ?e ?_); case e => (first | decide | omega)))
local macro_rules | `(tactic| walk_at "one") => `(tactic| ((with_reducible refine' Mi.w_modI ?e ?_); case e => (first | decide | omega)))
local macro_rules | `(tactic| walk_at "one") => `(tactic| (with_reducible refine Mi.w_dget ?_))
local macro_rules | `(tactic| walk_at "one") => `(tactic| (with_reducible refine Mi.w_ix ?_))
local macro_rules | `(tactic| walk_at "one") => `(tactic| (with_reducible refine Mi.w_blt ?_))
local macro_rules | `(tactic| walk_at "one") => `(tactic| (with_reducible refine Mi.w_isi ?_))
local macro_rules | `(tactic| walk_at "one") => `(tactic| (with_reducible refine Mi.w_eqI ?_))
local macro_rules | `(tactic| walk_at "one") => `(tactic| (with_reducible refine Mi.w_geI ?_))
local macro_rules | `(tactic| walk_at "one") => `(tactic| (with_reducible refine Mi.w_gtI ?_))
local macro_rules | `(tactic| walk_at "one") => `(tactic| (with_reducible refine Mi.w_leI ?_))
local macro_rules | `(tactic| walk_at "one") => `(tactic| (with_reducible refine Mi.w_ltI ?_))
local macro_rules | `(tactic| walk_at "one") => `(tactic| (with_reducible refine Mi.w_chain ?_))
local macro_rules | `(tactic| walk_at "one") => `(tactic| (with_reducible refine Mi.w_cmp ?_))
local macro_rules | `(tactic| walk_at "one") => `(tactic| (with_reducible refine Mi.w_ite ?_))
local macro_rules | `(tactic| walk_at "one") => `(tactic| (with_reducible refine Mi.w_notR ?_))
local macro_rules | `(tactic| walk_at "one") => `(tactic| (with_reducible refine Mi.w_not ?_))
local macro_rules | `(tactic| walk_at "one") => `(tactic| (with_reducible refine Mi.w_or ?_))
local macro_rules | `(tactic| walk_at "one") => `(tactic| (with_reducible refine Mi.w_and ?_))
local macro_rules | `(tactic| walk_at "one") => `(tactic| (with_reducible refine Mi.w_brf ?_))
local macro_rules | `(tactic| walk_at "one") => `(tactic| (with_reducible refine Mi.w_brt ?_))
local macro_rules | `(tactic| walk_at "one") => `(tactic| (with_reducible refine Mi.v_ifs ?_))
local macro_rules | `(tactic| walk_at "one") => `(tactic| (with_reducible refine Mi.v_nil ?_))
local macro_rules | `(tactic| walk_at "one") => `(tactic| (with_reducible refine Mi.v_endR ?_))
local macro_rules | `(tactic| walk_at "one") => `(tactic| (with_reducible refine Mi.v_retD ?_))
local macro_rules | `(tactic| walk_at "one") => `(tactic| (with_reducible refine Mi.v_ret ?_))
local macro_rules | `(tactic| walk_at "one") => `(tactic| (with_reducible refine Mi.v_asg ?_))
local macro_rules | `(tactic| walk_at "one") => `(tactic| (with_reducible refine Mi.v_contR ?_))
local macro_rules | `(tactic| walk_at "one") => `(tactic| ((with_reducible refine Mi.v_contN ?_); try simp only [Mi.setV, List.set_cons_succ, List.set_cons_zero]))
local macro_rules | `(tactic| walk_at "one") => `(tactic| (with_reducible refine Mi.v_cons ?_))
local macro_rules | `(tactic| walk_at "one") => `(tactic| (with_reducible refine Mi.w_call ?_))
local macro_rules | `(tactic| walk_at "one") => `(tactic| (with_reducible refine Mi.w_nil ?_))
local macro_rules | `(tactic| walk_at "one") => `(tactic| (with_reducible refine Mi.w_cons ?_))
local macro_rules | `(tactic| walk_at "one") => `(tactic| (with_reducible refine Mi.w_subI ?_))
local macro_rules | `(tactic| walk_at "one") => `(tactic| (with_reducible refine Mi.w_addI ?_))
local macro_rules | `(tactic| walk_at "one") => `(tactic| (with_reducible refine Mi.w_ok ?_))
local macro_rules | `(tactic| walk_at "one") => `(tactic| (with_reducible refine Mi.w_bind ?_))
local macro_rules | `(tactic| walk_at "one") => `(tactic| (with_reducible refine Mi.w_fzD ?_))
local macro_rules | `(tactic| walk_at "one") => `(tactic| (with_reducible refine Mi.w_bin ?_))
local macro_rules | `(tactic| walk_at "one") => `(tactic| ((with_reducible refine' Mi.w_var ?e ?_); case e => rfl))
local macro_rules | `(tactic| walk_at "one") => `(tactic| (with_reducible refine Mi.w_con ?_))
local macro_rules | `(tactic| walk_at "one") => `(tactic| (with_reducible refine Mi.w_notF ?_))
local macro_rules | `(tactic| walk_at "one") => `(tactic| (with_reducible refine Mi.w_notT ?_))
local macro_rules | `(tactic| walk_at "run") => `(tactic| repeat walk_at "one")
namespace Mi
open PySem PySem.Spec PyProof.Rows L2
variable {X : Exc → Hh → Prop}
/-- it and its parts can be looked at, so deep -/
def Sn (h : Hh) : Nat → D → Prop
  | _, .str s => PyData.strOk s = true
  | k + 1, .tup l => ∀ x ∈ l, Sn h k x
  | _, d => seen h d = true
theorem Sn.seen {h : Hh} : ∀ {k : Nat} {d : D}, Sn h k d → seen h d = true
  | _, .str _, _ => rfl
  | 0, .tup _, _ => rfl
  | k + 1, .tup l, _ => rfl
  | _, .non, _ => rfl
  | _, .bl _, _ => rfl
  | _, .int _, _ => rfl
  | _, .lst _, _ => rfl
  | 0, .arg _, s => s
  | k + 1, .arg _, s => s
  | 0, .ref _, s => s
  | 0, .sp _ _ _, s => s
  | k + 1, .ref _, s => s
  | k + 1, .sp _ _ _, s => s
theorem Sn.str {h : Hh} {s : Str} : ∀ {k : Nat}, Sn h k (.str s) → PyData.strOk s = true
  | 0, s => s
  | k + 1, s => s
def leafD : D → Bool := among 0 99
/-- how many leaves and rows, at most so deep -/
def sizeW : Nat → D → Nat
  | 0, _ => 0
  | k + 1, d => if leafD d then 1 else match d with
    | .tup l => if l.length ≤ 10 ∧ (∀ x ∈ l, 0 < sizeW k x) ∧ 1 + (l.map (sizeW k)).sum ≤ 60 then 1 + (l.map (sizeW k)).sum else 0
    | _ => 0
def worthD (d : D) : Bool := decide (0 < sizeW 6 d)
def smallD (d : D) : Bool := decide (1 ≤ sizeW 6 d) && decide (sizeW 6 d ≤ 5)
def smallsD (a b : Nat) : D → Bool
  | .tup l => decide (a ≤ l.length) && decide (l.length ≤ b) && l.all smallD
  | _ => false
def endlessD : D → Bool
  | .tup [.str s, x, y] => decide (s = "endless") && smallsD 0 60 x && smallsD 1 10 y
  | _ => false
def thingD (d : D) : Bool := worthD d || endlessD d
structure W0 (T : Tab) (G : Str → Option D) : Prop where
  whole : T "is_whole" = some f_is_whole
  among : T "is_among" = some f_is_among
  leaf : T "is_leaf" = some fn_is_leaf
  gLeaf : G "MOST_LEAF" = some (.int 99)
structure W1 (T : Tab) (G : Str → Option D) : Prop extends W0 T G where
  size : T "size_within" = some fn_size_within
  gThings : G "MOST_THINGS" = some (.int 10)
  gSize : G "MOST_SIZE" = some (.int 60)
section
variable {T : Tab} {G : Str → Option D} {n : Nat} {h : Hh} {d : D}
theorem leaf_ok (W : W0 T G) (s : seen h d = true) : run T G (n + 3) "is_leaf" [d] h = .ok (.dat (.bl (leafD d))) h := by
  have g1 := W.gLeaf
  refine ev_eq (v_run W.leaf rfl ?_)
  unfold fn_is_leaf
  simp only [Fn.env, List.map_cons, List.map_nil, Nat.reduceSub, List.replicate_succ, List.replicate_zero, List.cons_append, List.nil_append]
  walk_at "run"
  refine ev_of (among_ok W.whole W.among s) ?_
  walk_at "run"
  exact ⟨rfl, rfl⟩
theorem size_step (W : W1 T G) (k : Nat) (ih : ∀ j, k = j + 1 → ∀ (n : Nat) (d : D), Sn h j d → run T G (n + j + 4) "size_within" [d, .int (j : Nat)] h = .ok (.dat (.int (sizeW j d : Nat))) h)
    (n : Nat) (d : D) (s : Sn h k d) : run T G (n + k + 4) "size_within" [d, .int (k : Nat)] h = .ok (.dat (.int (sizeW k d : Nat))) h := by
  have g1 := W.gThings
  have g2 := W.gSize
  have s0 := s.seen
  refine ev_eq (v_run W.size rfl ?_)
  unfold fn_size_within
  simp only [Fn.env, List.map_cons, List.map_nil, Nat.reduceSub, List.replicate_succ, List.replicate_zero, List.cons_append, List.nil_append]
  walk_at "run"
  refine ev_of (leaf_ok W.toW0 s0) ?_
  walk_at "run"
  refine ev_br (fun h1 => ?_) (fun h1 => ?_)
  · walk_at "run"
    refine ev_br (fun h2 => ?_) (fun h2 => ?_)
    · walk_at "run"
      refine ⟨?_, rfl⟩
      cases k with
      | zero => simp at h2
      | succ k => simp only [sizeW, h1, if_true]; rfl
    · walk_at "run"
      refine ⟨?_, rfl⟩
      cases k with
      | zero => rfl
      | succ k => simp at h2 <;> omega
  · walk_at "run"
    cases k with
    | zero =>
      walk_at "run"
      exact ⟨rfl, rfl⟩
    | succ k =>
      walk_at "run"
      cases d with
      | tup l =>
        walk_at "run"
        refine ev_br (fun h2 => ?_) (fun h2 => ?_)
        · walk_at "run"
          refine ⟨?_, rfl⟩
          simp only [decide_eq_true_eq] at h2
          simp only [sizeW, h1]
          rw [if_neg (by simp), if_neg (by omega)]; rfl
        · simp only [decide_eq_false_iff_not] at h2
          walk_at "run"
          refine ev_for (fun i e g => g = h ∧ (∀ x ∈ l.take i, 0 < sizeW k x) ∧ 1 + ((l.take i).map (sizeW k)).sum ≤ 60 ∧ ∃ s3 s4, e = [.val (.tup l), .val (.int ((k + 1 : Nat) : Int)), .val (.int ((1 + ((l.take i).map (sizeW k)).sum : Nat) : Int)), s3, s4])
            ⟨rfl, by simp, by simp, _, _, rfl⟩ ?_ ?_
          · rintro i x env g hx ⟨rfl, p1, p2, s3, s4, rfl⟩
            have hm : x ∈ l := List.mem_of_getElem? hx
            have ht : l.take (i + 1) = l.take i ++ [x] := by rw [List.take_succ, hx]; rfl
            refine ⟨_, rfl, ?_⟩
            walk_at "run"
            rw [show ((k + 1 : Nat) : Int) - 1 = (k : Nat) by omega]
            refine ev_of (ih k rfl n x (s x hm)) ?_
            walk_at "run"
            refine ev_br (fun h3 => ?_) (fun h3 => ?_)
            · walk_at "run"
              simp only [decide_eq_true_eq] at h3
              refine ⟨?_, rfl⟩
              simp only [sizeW, h1]
              rw [if_neg (by simp), if_neg (fun z => by have := z.2.1 x hm; omega)]; rfl
            · simp only [decide_eq_false_iff_not] at h3
              walk_at "run"
              refine ev_br (fun h4 => ?_) (fun h4 => ?_)
              · walk_at "run"
                simp only [decide_eq_true_eq] at h4
                refine ⟨?_, rfl⟩
                simp only [sizeW, h1]
                rw [if_neg (by simp), if_neg (fun z => ?_)]
                · rfl
                · have hsum : ((l.take (i + 1)).map (sizeW k)).sum ≤ (l.map (sizeW k)).sum := by
                    conv => rhs; rw [← List.take_append_drop (i + 1) l]
                    rw [List.map_append, List.sum_append]; omega
                  rw [ht, List.map_append, List.sum_append, List.map_cons, List.map_nil, List.sum_cons, List.sum_nil] at hsum
                  have := z.2.2
                  omega
              · simp only [decide_eq_false_iff_not] at h4
                walk_at "run"
                have e2 : ((l.take (i + 1)).map (sizeW k)).sum = ((l.take i).map (sizeW k)).sum + sizeW k x := by rw [ht, List.map_append, List.sum_append]; simp
                refine ⟨rfl, fun y hy => ?_, by rw [e2]; omega, .val x, .val (.int (sizeW k x : Nat)), ?_⟩
                · rw [ht] at hy
                  rcases List.mem_append.mp hy with q | q
                  · exact p1 y q
                  · simp at q; subst q; omega
                · rw [e2, show ((1 + (((l.take i).map (sizeW k)).sum + sizeW k x) : Nat) : Int) = ((1 + ((l.take i).map (sizeW k)).sum : Nat) : Int) + (sizeW k x : Nat) by omega]
          · rintro env g ⟨rfl, p1, p2, s3, s4, rfl⟩
            rw [List.take_length] at p1 p2
            walk_at "run"
            refine ⟨?_, rfl⟩
            simp only [sizeW, h1]
            rw [if_neg (by simp), if_pos ⟨by omega, p1, p2⟩, List.take_length]
      | _ =>
        walk_at "run"
        all_goals first
          | (refine ⟨?_, rfl⟩; simp only [sizeW, h1]; rfl)
          | skip
        all_goals
          refine w_isT s0 ?_
          walk_at "run"
          refine ⟨?_, rfl⟩
          simp only [sizeW, h1]; rfl
theorem size_ok (W : W1 T G) : ∀ (k n : Nat) (d : D), Sn h k d → run T G (n + k + 4) "size_within" [d, .int (k : Nat)] h = .ok (.dat (.int (sizeW k d : Nat))) h
  | 0, n, d, s => size_step W 0 (fun j e => by cases e) n d s
  | k + 1, n, d, s => size_step W (k + 1) (fun j e => by cases e; exact size_ok W k) n d s
theorem strOk_endless : PyData.strOk "endless" = true := by decide +kernel
end
end Mi
/-! Mi18: rows taken apart. -/
namespace Mi
open PySem PySem.Spec PyProof.Rows L2
variable {X : Exc → Hh → Prop}
noncomputable def goesD : D → Bool
  | .tup [x, _, _] => decide (x = .str "endless")
  | _ => false
/-- an endless row of a stem and a round -/
def endl (s a : List D) : D := .tup [.str "endless", .tup s, .tup a]
theorem goes_endl {s a : List D} : goesD (endl s a) = true := by simp [goesD, endl]
section
variable {T : Tab} {G : Str → Option D} {n : Nat} {h : Hh} {d : D}
end
/-! ### good rows -/
theorem size_pl : ∀ (k : Nat) (d : D), 0 < sizeW k d → Pl k d
  | 0, d, p => by simp [sizeW] at p
  | k + 1, d, p => by
    simp only [sizeW] at p
    split at p
    · rename_i q
      cases d <;> first | exact True.intro | cases q
    · split at p
      · rename_i l _
        split at p
        · rename_i q
          exact Pl.tup fun x hx => size_pl k x (q.2.1 x hx)
        · omega
      · omega
theorem size_tup {k : Nat} {l : List D} : sizeW (k + 1) (.tup l) = if l.length ≤ 10 ∧ (∀ x ∈ l, 0 < sizeW k x) ∧ 1 + (l.map (sizeW k)).sum ≤ 60 then 1 + (l.map (sizeW k)).sum else 0 := rfl
theorem size_row {k : Nat} {l : List D} (p : 0 < sizeW (k + 1) (.tup l)) : l.length ≤ 10 ∧ (∀ x ∈ l, 0 < sizeW k x) ∧ 1 + (l.map (sizeW k)).sum ≤ 60 ∧ sizeW (k + 1) (.tup l) = 1 + (l.map (sizeW k)).sum := by
  rw [size_tup] at p ⊢
  split at p
  · rename_i q
    rw [if_pos q]
    exact ⟨q.1, q.2.1, q.2.2, rfl⟩
  · omega
theorem worth_pl {d : D} (w : worthD d = true) : Pl 6 d := size_pl 6 d (by simpa [worthD] using w)
theorem small_worth {d : D} (w : smallD d = true) : worthD d = true := by
  simp only [smallD, Bool.and_eq_true, decide_eq_true_eq] at w
  simp only [worthD, decide_eq_true_eq]; omega
theorem small_pl {d : D} (w : smallD d = true) : Pl 6 d := worth_pl (small_worth w)
theorem worth_str {s : Str} {k : Nat} : sizeW k (.str s) = 0 := by cases k <;> simp [sizeW, leafD, among]
theorem worth_goes {d : D} (w : worthD d = true) : goesD d = false := by
  cases d with
  | tup l =>
    match l, w with
    | [x, y, z], w =>
      simp only [goesD]
      refine decide_eq_false fun e => ?_
      subst e
      have := (size_row (k := 5) (by simpa [worthD] using w)).2.1 (.str "endless") (by simp)
      rw [worth_str] at this
      omega
    | [], _ => rfl
    | [_], _ => simp [goesD]
    | [_, _], _ => simp [goesD]
    | _ :: _ :: _ :: _ :: _, _ => simp [goesD]
  | _ => rfl
/-- an endless row that is one -/
structure IR (s a : List D) : Prop where
  ls : s.length ≤ 60
  la : a.length ≤ 10
  a0 : a ≠ []
  ss : ∀ x ∈ s, smallD x = true
  sa : ∀ x ∈ a, smallD x = true
theorem ir_iff {s a : List D} : endlessD (endl s a) = true ↔ IR s a := by
  simp only [endl, endlessD, smallsD, Bool.and_eq_true, decide_eq_true_eq, List.all_eq_true, true_and]
  constructor
  · rintro ⟨⟨⟨_, q2⟩, q3⟩, ⟨q4, q5⟩, q6⟩
    exact ⟨q2, q5, fun z => by subst z; simp at q4, q3, q6⟩
  · rintro ⟨q1, q2, q3, q4, q5⟩
    exact ⟨⟨⟨Nat.zero_le _, q1⟩, q4⟩, ⟨List.length_pos_iff.mpr q3, q2⟩, q5⟩
theorem IR.pl {s a : List D} (i : IR s a) : Pl 8 (endl s a) := by
  refine Pl.tup fun x hx => ?_
  simp only [List.mem_cons, List.not_mem_nil, or_false] at hx
  rcases hx with rfl | rfl | rfl
  · exact .str strOk_endless
  · exact Pl.tup fun x hx => small_pl (i.ss x hx)
  · exact Pl.tup fun x hx => small_pl (i.sa x hx)
theorem IR.thing {s a : List D} (i : IR s a) : thingD (endl s a) = true := by simp [thingD, ir_iff.mpr i]
theorem IR.lean {s a : List D} (i : IR s a) : IR (leaned s a).1 (leaned s a).2 := by
  obtain ⟨i1, i2, i3, i4, i5, i6⟩ := leaned_ok (s := s) i.a0
  exact ⟨Nat.le_trans i3 i.ls, Nat.le_trans i4 i.la, i1.1, fun x hx => i.ss x (i5 x hx), fun x hx => i.sa x (i6 x hx)⟩
theorem worth_thing {d : D} (w : worthD d = true) : thingD d = true := by simp [thingD, w]
section
variable {T : Tab} {G : Str → Option D} {n : Nat} {h : Hh} {d : D}
end
end Mi
/-! Mi19: places and parts of rows. -/
namespace Mi
open PySem PySem.Spec PyProof.Rows L2
variable {X : Exc → Hh → Prop}
/-- the thing of a number -/
def stAt (s a : List D) (i : Nat) : D := (strm s a i).getD .non
theorem cyc_some {α : Type} {a : List α} (h : a ≠ []) (i : Nat) : ∃ x, cyc a i = some x ∧ x ∈ a := by
  have hp : 0 < a.length := List.length_pos_iff.mpr h
  have := Nat.mod_lt i hp
  exact ⟨a[i % a.length], List.getElem?_eq_getElem this, List.getElem_mem _⟩
theorem strm_some {α : Type} {s a : List α} (h : a ≠ []) (i : Nat) : ∃ x, strm s a i = some x ∧ (x ∈ s ∨ x ∈ a) := by
  by_cases hi : i < s.length
  · exact ⟨s[i], by rw [strm_lt hi, List.getElem?_eq_getElem hi], .inl (List.getElem_mem _)⟩
  · obtain ⟨x, e, m⟩ := cyc_some h (i - s.length)
    exact ⟨x, by rw [strm_ge (by omega), e], .inr m⟩
theorem IR.at {s a : List D} (i : IR s a) (k : Nat) : smallD (stAt s a k) = true := by
  obtain ⟨x, e, m⟩ := strm_some (s := s) i.a0 k
  rw [stAt, e]
  exact m.elim (i.ss x) (i.sa x)
/-- the first so many things -/
def ahead (s a : List D) (m : Nat) : List D := (List.range m).map (stAt s a)
def bhS (s : List D) (m : Nat) : List D := if m ≤ s.length then s.drop m else []
def bhA (s a : List D) (m : Nat) : List D := if m ≤ s.length then a else a.drop ((m - s.length) % a.length) ++ a.take ((m - s.length) % a.length)
section
variable {T : Tab} {G : Str → Option D} {n : Nat} {h : Hh} {d : D}
end
/-- a row: worths in a row, or endless -/
inductive Row where
  | fin (l : List D)
  | inf (s a : List D)
def Row.d : Row → D
  | .fin l => .tup l
  | .inf s a => endl s a
def Row.ok : Row → Prop
  | .fin l => worthD (.tup l) = true
  | .inf s a => IR s a
/-- up to which number things may be asked for -/
def Row.len : Row → Nat
  | .fin l => l.length
  | .inf _ _ => 40
def Row.at (r : Row) (i : Nat) : D := match r with
  | .fin l => l[i]?.getD .non
  | .inf s a => stAt s a i
def Row.ahead (r : Row) (m : Nat) : List D := match r with
  | .fin l => l.take m
  | .inf s a => Mi.ahead s a m
noncomputable def Row.lean : Row → Row
  | .fin l => .fin l
  | .inf s a => .inf (leaned s a).1 (leaned s a).2
noncomputable def Row.behind (r : Row) (m : Nat) : Row := match r with
  | .fin l => .fin (l.drop m)
  | .inf s a => (Row.inf (bhS s m) (bhA s a m)).lean
/-- some things ahead of a row -/
noncomputable def Row.join (t : List D) : Row → Row
  | .fin l => .fin (t ++ l)
  | .inf s a => (Row.inf (t ++ s) a).lean
noncomputable def Row.without (r : Row) (i : Nat) : Row := (r.behind (i + 1)).join (r.ahead i)
theorem Row.ok.thing : ∀ {r : Row}, r.ok → thingD r.d = true
  | .fin _, w => worth_thing w
  | .inf _ _, i => IR.thing i
theorem Row.ok.pl : ∀ {r : Row}, r.ok → Pl 8 r.d
  | .fin _, w => (worth_pl w).le (by omega)
  | .inf _ _, i => IR.pl i
theorem Row.ok.goes : ∀ {r : Row}, r.ok → goesD r.d = (match r with | .fin _ => false | .inf _ _ => true)
  | .fin _, w => worth_goes w
  | .inf _ _, _ => goes_endl
section
variable {T : Tab} {G : Str → Option D} {r1 r2 r3 : S} {n : Nat} {h : Hh} {r : Row}
end
end Mi
/-! Mi20: leaves, worths, rows, endless rows drawn. -/
namespace Mi
open PySem PySem.Spec PyProof.Rows L2
variable {X : Exc → Hh → Prop}
def fn__law_leaf : Fn := ⟨1, 1, (.cons (.ret (.ix (.lst (.cons (.con (.int 0)) (.cons (.con (.int 1)) (.cons (.con (.int 2)) (.cons (.con (.int 1)) (.cons (.con (.int 2)) (.cons (.con (.int 5)) (.cons (.con (.int 99)) (.cons (.call "_law_draw" (.cons (.var 0) (.cons (.con (.int 100)) .nil))) .nil))))))))) (.call "_law_draw" (.cons (.var 0) (.cons (.con (.int 8)) .nil))))) .nil)⟩
def fn__law_row : Fn := ⟨2, 4, (.cons (.asg 2 (.lst (.cons (.call "_law_draw" (.cons (.var 0) (.cons (.con (.int 3)) .nil))) (.cons (.call "_law_draw" (.cons (.var 0) (.cons (.con (.int 3)) .nil))) (.cons (.con (.int 5)) (.cons (.tup (.cons (.con (.int 1)) .nil)) (.cons (.tup .nil) (.cons (.tup (.cons (.con (.int 1)) (.cons (.con (.int 2)) .nil))) (.cons (.tup (.cons (.con (.int 2)) (.cons (.con (.int 1)) .nil))) (.cons (.call "_law_leaf" (.cons (.var 0) .nil)) .nil)))))))))) (.cons (.ret (.blt .toTuple (.cons (.comp [3] (.nm 3) (.rng1 (.call "_law_draw" (.cons (.var 0) (.cons (.bin .add (.var 1) (.con (.int 1))) .nil)))) (.con (.bl true)) (.ix (.var 2) (.call "_law_draw" (.cons (.var 0) (.cons (.ix (.lst (.cons (.con (.int 3)) (.cons (.con (.int 4)) (.cons (.con (.int 8)) .nil)))) (.call "_law_draw" (.cons (.var 0) (.cons (.con (.int 3)) .nil)))) .nil))))) .nil))) .nil))⟩
theorem size_mono : ∀ (k : Nat) (d : D), 0 < sizeW k d → sizeW (k + 1) d = sizeW k d
  | 0, d, p => by simp [sizeW] at p
  | k + 1, d, p => by
    cases d with
    | tup l =>
      obtain ⟨q1, q2, q3, q4⟩ := size_row p
      have e : l.map (sizeW (k + 1)) = l.map (sizeW k) := List.map_congr_left fun x hx => size_mono k x (q2 x hx)
      rw [size_tup, e, if_pos ⟨q1, fun x hx => by rw [size_mono k x (q2 x hx)]; exact q2 x hx, q3⟩, q4]
    | _ => simp only [sizeW]
theorem size_up {k j : Nat} {d : D} (p : 0 < sizeW k d) (h : k ≤ j) : sizeW j d = sizeW k d := by
  induction j with
  | zero => have : k = 0 := by omega
            subst this; rfl
  | succ j ih =>
    by_cases q : k ≤ j
    · have := ih q
      rw [size_mono j d (by omega), this]
    · have : k = j + 1 := by omega
      rw [this]
/-- a very small thing -/
def tiny (d : D) : Prop := 0 < sizeW 2 d ∧ sizeW 2 d ≤ 3
theorem tiny.small {d : D} (t : tiny d) : smallD d = true := by
  have := size_up (j := 6) t.1 (by omega)
  have := t.1
  have := t.2
  simp only [smallD, Bool.and_eq_true, decide_eq_true_eq]; omega
theorem tiny_int {i : Nat} (h : i ≤ 99) : tiny (.int (i : Nat)) := by
  have e : leafD (.int (i : Nat)) = true := by simp [leafD, among]; omega
  simp [tiny, sizeW, e]
theorem w_pickN {l : List D} {i : Int} {h : Hh} {Q : R → Hh → Prop} (h0 : 0 ≤ i) (h1 : i < l.length) (p : ∀ d ∈ l, Q (.dat d) h) : evX X (ofR h (ixF h (.new l) (.dat (.int i))) .dat) Q := w_ixN (atI_in h0 (by omega)) (p _ (List.getElem_mem _))
theorem w_pickL {l : List D} {i : Int} {h : Hh} {Q : R → Hh → Prop} (h0 : 0 ≤ i) (h1 : i < l.length) (p : ∀ d ∈ l, Q (.dat d) h) : evX X (ofR h (ixF h (.dat (.lst l)) (.dat (.int i))) .dat) Q := w_ixF (atI_in h0 (by omega)) (p _ (List.getElem_mem _))
section
variable {T : Tab} {G : Str → Option D} {n : Nat} {h : Hh} {d : D} {m ci li : Nat} {b : Int}
theorem dleaf_ok (hM : T "_law_mixed" = some f_mixed) (hD : T "_law_draw" = some f_draw) (hL : T "_law_leaf" = some fn__law_leaf) (d : Dr h m ci li b) (hb : b < 2 ^ 58) :
    evX X (run T G (n + 3) "_law_leaf" [.ref m] h) fun r h' => ∃ i : Nat, r = .dat (.int (i : Nat)) ∧ i ≤ 99 ∧ Dr h' m ci li (b + 2) ∧ Kp m li h h' := by
  refine v_run hL rfl ?_
  unfold fn__law_leaf
  simp only [Fn.env, List.map_cons, List.map_nil, Nat.reduceSub, List.replicate_succ, List.replicate_zero, List.cons_append, List.nil_append]
  walk_at "run"
  refine ev_mono (draw_ok hM hD d (by omega) (by decide) (by decide)) ?_
  rintro r h1 ⟨x, rfl, x0, x1, d1, k1⟩
  walk_at "run"
  refine ev_mono (draw_ok hM hD d1 (by omega) (by decide) (by decide)) ?_
  rintro r h2 ⟨y, rfl, y0, y1, d2, k2⟩
  walk_at "run"
  refine w_pickN y0 y1 fun e he => ?_
  obtain ⟨i, rfl, hi⟩ : ∃ i : Nat, e = .int (i : Nat) ∧ i ≤ 99 := by
    simp only [List.mem_cons, List.not_mem_nil, or_false] at he
    rcases he with rfl | rfl | rfl | rfl | rfl | rfl | rfl | rfl
    · exact ⟨0, rfl, by omega⟩
    · exact ⟨1, rfl, by omega⟩
    · exact ⟨2, rfl, by omega⟩
    · exact ⟨1, rfl, by omega⟩
    · exact ⟨2, rfl, by omega⟩
    · exact ⟨5, rfl, by omega⟩
    · exact ⟨99, rfl, by omega⟩
    · exact ⟨x.toNat, by rw [Int.toNat_of_nonneg x0], by omega⟩
  walk_at "run"
  exact ⟨i, rfl, hi, d2.mono (by omega), k1.trans k2⟩
/-- all else stays, but one list -/
def Kr (m li rr : Nat) (h h' : Hh) : Prop := h.length ≤ h'.length ∧ ∀ j, j < h.length → j ≠ m → j ≠ li → j ≠ rr → h'[j]? = h[j]?
theorem Kr.refl {rr : Nat} : Kr m li rr h h := ⟨Nat.le_refl _, fun _ _ _ _ _ => rfl⟩
theorem Kr.trans {rr : Nat} {h1 h2 : Hh} (a : Kr m li rr h h1) (b : Kr m li rr h1 h2) : Kr m li rr h h2 := ⟨Nat.le_trans a.1 b.1, fun j hj n1 n2 n3 => by rw [b.2 j (Nat.lt_of_lt_of_le hj a.1) n1 n2 n3, a.2 j hj n1 n2 n3]⟩
theorem Kp.kr {rr : Nat} {h1 : Hh} (a : Kp m li h h1) : Kr m li rr h h1 := ⟨a.1, fun j hj n1 n2 _ => a.2 j hj n1 n2⟩
theorem Kp.at {j : Nat} {h1 : Hh} {o : O} (a : Kp m li h h1) (e : h[j]? = some o) (n1 : j ≠ m) (n2 : j ≠ li) : h1[j]? = some o := by rw [a.2 j (List.getElem?_eq_some_iff.mp e).1 n1 n2, e]
theorem Dr.set {rr : Nat} {o : O} (d : Dr h m ci li b) (n1 : rr ≠ m) (n2 : rr ≠ ci) (n3 : rr ≠ li) : Dr (h.set rr o) m ci li b := by
  obtain ⟨⟨cs, ls, a, q1, q2, q3, q4, q5, q6, q7, q8⟩, z1, z2, z3⟩ := d
  exact ⟨⟨cs, ls, a, by rw [List.getElem?_set_ne n1]; exact q1, by rw [List.getElem?_set_ne n2]; exact q2, q3, q4, by rw [List.getElem?_set_ne n3]; exact q5, q6, q7, q8⟩, z1, z2, z3⟩
theorem Kr.set {rr : Nat} {o : O} : Kr m li rr h (h.set rr o) := ⟨by simp, fun j _ _ _ n3 => List.getElem?_set_ne (Ne.symm n3)⟩
/-- a drawn row's things -/
theorem drow_ok (hM : T "_law_mixed" = some f_mixed) (hD : T "_law_draw" = some f_draw) (hL : T "_law_leaf" = some fn__law_leaf) (hR : T "_law_row" = some fn__law_row) (d : Dr h m ci li b) (hb : b < 2 ^ 57) {most : Nat} (hm : most ≤ 60) :
    evX X (run T G (n + 4) "_law_row" [.ref m, .int (most : Nat)] h) fun r h' => ∃ l : List D, r = .dat (.tup l) ∧ l.length ≤ most ∧ (∀ x ∈ l, tiny x) ∧ Dr h' m ci li (b + 200) ∧ Kp m li h h' := by
  refine v_run hR rfl ?_
  unfold fn__law_row
  simp only [Fn.env, List.map_cons, List.map_nil, Nat.reduceSub, List.replicate_succ, List.replicate_zero, List.cons_append, List.nil_append]
  walk_at "run"
  refine ev_mono (draw_ok (n := n + 1) hM hD d (by omega) (by decide) (by decide)) ?_
  rintro r h1 ⟨x, rfl, x0, x1, d1, k1⟩
  walk_at "run"
  refine ev_mono (draw_ok (n := n + 1) hM hD d1 (by omega) (by decide) (by decide)) ?_
  rintro r h2 ⟨y, rfl, y0, y1, d2, k2⟩
  walk_at "run"
  refine ev_mono (dleaf_ok (n := n) hM hD hL d2 (by omega)) ?_
  rintro r h3 ⟨i, rfl, hi, d3, k3⟩
  walk_at "run"
  have k3 := (k1.trans k2).trans k3
  have sm : ∀ z ∈ [D.int x, D.int y, .int 5, .tup [.int 1], .tup [], .tup [.int 1, .int 2], .tup [.int 2, .int 1], .int (i : Nat)], tiny z := by
    intro z hz
    simp only [List.mem_cons, List.not_mem_nil, or_false] at hz
    rcases hz with rfl | rfl | rfl | rfl | rfl | rfl | rfl | rfl
    · rw [← Int.toNat_of_nonneg x0]; exact tiny_int (by omega)
    · rw [← Int.toNat_of_nonneg y0]; exact tiny_int (by omega)
    · exact ⟨by decide +kernel, by decide +kernel⟩
    · exact ⟨by decide +kernel, by decide +kernel⟩
    · exact ⟨by decide +kernel, by decide +kernel⟩
    · exact ⟨by decide +kernel, by decide +kernel⟩
    · exact ⟨by decide +kernel, by decide +kernel⟩
    · exact tiny_int hi
  have ls : [D.int x, D.int y, .int 5, .tup [.int 1], .tup [], .tup [.int 1, .int 2], .tup [.int 2, .int 1], .int (i : Nat)].length = 8 := rfl
  generalize [D.int x, D.int y, .int 5, .tup [.int 1], .tup [], .tup [.int 1, .int 2], .tup [.int 2, .int 1], .int (i : Nat)] = some at *
  refine ev_mono (draw_ok (n := n + 1) hM hD d3 (by omega) (by omega) (by omega)) ?_
  rintro r h4 ⟨z, rfl, z0, z1, d4, k4⟩
  walk_at "run"
  have k4 := k3.trans k4
  refine ev_comp (fun i acc g => i ≤ z.toNat ∧ acc.length = i ∧ (∀ x ∈ acc, tiny x) ∧ Dr g m ci li (b + 5 + 2 * (i : Nat)) ∧ Kp m li h g) ⟨Nat.zero_le _, rfl, by simp, d4.mono (by omega), k4⟩ (by rw [rngL_length, sizeLine_eq]; simp only [List.length_nil]; omega) ?_ ?_
  · rintro i d acc g hd ⟨i0, a1, a2, a3, a4⟩
    obtain ⟨hi, rfl⟩ := rngL_get hd
    refine ⟨_, rfl, ?_⟩
    walk_at "run"
    refine ev_mono (draw_ok (n := n + 1) hM hD a3 (by omega) (by decide) (by decide)) ?_
    rintro r h5 ⟨u, rfl, u0, u1, d5, k5⟩
    walk_at "run"
    refine w_pickN u0 u1 fun e he => ?_
    obtain ⟨v, rfl, v0, v1⟩ : ∃ v : Int, e = .int v ∧ 0 < v ∧ v ≤ 8 := by
      simp only [List.mem_cons, List.not_mem_nil, or_false] at he
      rcases he with rfl | rfl | rfl
      · exact ⟨3, rfl, by decide⟩
      · exact ⟨4, rfl, by decide⟩
      · exact ⟨8, rfl, by decide⟩
    walk_at "run"
    refine ev_mono (draw_ok (n := n + 1) hM hD d5 (by omega) (by omega) (by omega)) ?_
    rintro r h6 ⟨w, rfl, w0, w1, d6, k6⟩
    walk_at "run"
    refine w_pickL w0 (by omega) fun e he => ?_
    walk_at "run"
    refine ⟨by omega, by simp [a1], fun x hx => ?_, d6.mono (by omega), (a4.trans k5).trans k6⟩
    rcases List.mem_append.mp hx with q | q
    · exact a2 x q
    · rw [List.mem_singleton.mp q]; exact sm e he
  · rintro acc g ⟨i0, a1, a2, a3, a4⟩
    rw [rngL_length] at a1 a3
    walk_at "run"
    exact ⟨acc, rfl, by omega, a2, a3.mono (by omega), a4⟩
end
theorem Dr.more {h : Hh} {m ci li : Nat} {b : Int} (d : Dr h m ci li b) (o : List O) : Dr (h ++ o) m ci li b := by
  obtain ⟨⟨cs, ls, a, q1, q2, q3, q4, q5, q6, q7, q8⟩, z1, z2, z3⟩ := d
  have g : ∀ {j : Nat} {x : O}, h[j]? = some x → (h ++ o)[j]? = some x := fun e => by rw [List.getElem?_append_left (List.getElem?_eq_some_iff.mp e).1]; exact e
  exact ⟨⟨cs, ls, a, g q1, g q2, q3, q4, g q5, q6, q7, q8⟩, z1, z2, z3⟩
theorem Dr.lt {h : Hh} {m ci li : Nat} {b : Int} (d : Dr h m ci li b) : m < h.length ∧ ci < h.length ∧ li < h.length := by
  obtain ⟨⟨cs, ls, a, q1, q2, q3, q4, q5, q6, q7, q8⟩, z1, z2, z3⟩ := d
  exact ⟨(List.getElem?_eq_some_iff.mp q1).1, (List.getElem?_eq_some_iff.mp q2).1, (List.getElem?_eq_some_iff.mp q5).1⟩
end Mi
/-! Mi21: the laws' own lean rows. -/
namespace Mi
open PySem PySem.Spec PyProof.Rows L2
variable {X : Exc → Hh → Prop}
section
variable {T : Tab} {G : Str → Option D} {n : Nat} {h : Hh} {d : D}
end
end Mi
/-! MiRow: rows, plain. -/
namespace Mi
open PySem PySem.Spec PyProof.Rows L2
/-! ### rows, plain -/
def Row.same : Row → Row → Prop
  | .fin l, .fin l' => l = l'
  | .inf s a, .inf s' a' => strm s a = strm s' a'
  | _, _ => False
/-- room for what is asked of it -/
def Row.low (c : Nat) : Row → Prop
  | .fin _ => True
  | .inf s _ => s.length ≤ c
end Mi
/-! Mi22: repr of data. -/
namespace Mi
open PySem PySem.Spec PyProof.Rows L2
variable {X : Exc → Hh → Prop}
/-- the text of data -/
def rp (d : D) : Str := match d.py with
  | some p => p.shown
  | none => ""
def rokP (p : PyData) : Bool := p.showable && !p.hasDict && decide (p.shown.length ≤ sizeLine) && decide (p.depth ≤ 64)
/-- its text can be told -/
def Rok (d : D) : Prop := ∃ p, d.py = some p ∧ rokP p = true
section
variable {h : Hh} {Q : R → Hh → Prop}
theorem w_reprD {d : D} (ok : Rok d) (p : Q (.dat (.str (rp d))) h) : evX X (Res.of h (bltF h .repr [d])) Q := by
  obtain ⟨y, e, c⟩ := ok
  have e2 : (R.dat d).pyH h = some y := by
    cases d with
    | ref n => simp only [D.py] at e; cases e
    | _ => exact e
  refine w_of (a := .dat (.str y.shown)) ?_ (by unfold rp at p; rw [e] at p; exact p)
  show reprF h [d] = _
  simp only [reprF, e2]
  exact if_pos c
end
theorem Rok.of {d : D} {p : PyData} (e : d.py = some p) (h1 : p.showable = true) (h2 : p.canLay0 = true) (h3 : p.intsShort 13 = true) (h4 : p.depth ≤ 64) (h5 : p.weight ≤ 2 ^ 20) : Rok d := by
  refine ⟨p, e, ?_⟩
  unfold rokP
  have l : p.shown.length ≤ sizeLine := PyData.shown_fits_of_layable0 (B := 13) (by decide) (by decide) (by show (p.canLay0 && decide (p.depth ≤ 64) && decide (p.weight ≤ 2 ^ 20)) = true; rw [h2, decide_eq_true h4, decide_eq_true h5]; rfl) h3
  rw [h1, PyData.hasDict_of_canLay p h2, decide_eq_true l, decide_eq_true h4]
  rfl
theorem log_small {i : Int} (h : i.natAbs < 10 ^ 12) : i.natAbs.log2 < 1920 := by
  by_cases z : i.natAbs = 0
  · rw [z]; decide
  · have := (Nat.log2_lt z (k := 40)).mpr (Nat.lt_trans h (by decide))
    omega
theorem Rok.non : Rok .non := Rok.of (p := .none) rfl rfl rfl rfl (by decide) (by decide)
theorem Rok.bl {b : Bool} : Rok (.bl b) := Rok.of (p := .bool b) rfl rfl rfl rfl (Nat.zero_le _) (Nat.zero_le _)
theorem wt_int {i : Int} (h : i.natAbs < 10 ^ 12) : (PyData.int i).weight ≤ 41 := by
  simp only [PyData.weight]
  split
  · omega
  · by_cases z : i.natAbs = 0
    · rw [z]; decide
    · have := (Nat.log2_lt z (k := 40)).mpr (Nat.lt_trans h (by decide))
      omega
theorem Rok.int {i : Int} (h : i.natAbs < 10 ^ 12) : Rok (.int i) :=
  Rok.of (p := .int i) rfl (by simp only [PyData.showable, decide_eq_true_eq]; exact log_small h) rfl (by simp only [PyData.intsShort, decide_eq_true_eq]; exact PyData.shown_int_le h) (Nat.zero_le _) (Nat.le_trans (wt_int h) (by decide))
end Mi
/-! Mi23: refusals told; twins; weights of texts. -/
namespace Mi
open PySem PySem.Spec PyProof.Rows L2
variable {X : Exc → Hh → Prop}
/-! ### what a refusal tells -/
def words : List (Str × Str) := [("BadThing", "thing"), ("BadKind", "kind"), ("BadPattern", "pattern"), ("BadStand", "stand"), ("BadPlace", "place"), ("TooMany", "many")]
section
variable {T : Tab} {G : Str → Option D} {n : Nat} {h : Hh}
end
/-- what told makes of an answer -/
inductive Toldr (h : Hh) : Res R → D → Prop where
  | ok {d : D} : Toldr h (.ok (.dat d) h) (.lst [d])
  | ex {k w : Str} : (k, w) ∈ words → Toldr h (.ex ⟨k, []⟩ h) (.tup [.str w])
section
variable {T : Tab} {G : Str → Option D} {n : Nat} {h : Hh} {Q : R → Hh → Prop}
end
/-! ### twins -/
/-- all rows of data have at most a thousand things -/
def Wide : Nat → D → Prop
  | k + 1, .tup l => l.length ≤ 1000 ∧ ∀ x ∈ l, Wide k x
  | _, _ => True
theorem Wide.le : ∀ {k j : Nat} {d : D}, Wide k d → Pl k d → k ≤ j → Wide j d
  | k, 0, d, _, _, _ => by cases d <;> exact True.intro
  | 0, j + 1, .tup l, _, p, _ => p.elim
  | k + 1, j + 1, .tup l, w, p, hj => ⟨w.1, fun x hx => Wide.le (w.2 x hx) ((show ∀ x ∈ l, Pl k x from p) x hx) (by omega)⟩
  | k, j + 1, .non, _, _, _ => True.intro
  | k, j + 1, .bl _, _, _, _ => True.intro
  | k, j + 1, .int _, _, _, _ => True.intro
  | k, j + 1, .str _, _, _, _ => True.intro
  | k, j + 1, .lst _, _, _, _ => True.intro
  | k, j + 1, .arg _, _, _, _ => True.intro
  | k, j + 1, .ref _, _, _, _ => True.intro
  | k, j + 1, .sp _ _ _, _, _, _ => True.intro
section
variable {T : Tab} {G : Str → Option D} {n : Nat} {h : Hh}
end
/-! ### weights -/
/-- its text can be told: so deep, so heavy -/
def Tr (k w : Nat) (d : D) : Prop := ∃ p, d.py = some p ∧ p.canLay0 = true ∧ p.showable = true ∧ p.intsShort 13 = true ∧ p.depth ≤ k ∧ p.weight ≤ w
theorem Tr.le {k w k' w' : Nat} {d : D} (t : Tr k w d) (hk : k ≤ k' := by omega) (hw : w ≤ w' := by omega) : Tr k' w' d := by
  obtain ⟨p, e, h1, h2, h3, h4, h5⟩ := t
  exact ⟨p, e, h1, h2, h3, by omega, by omega⟩
theorem Tr.non : Tr 0 0 .non := ⟨.none, by simp [D.py], rfl, rfl, rfl, Nat.le_refl _, Nat.le_refl _⟩
theorem Tr.bl {b : Bool} : Tr 0 0 (.bl b) := ⟨.bool b, by simp [D.py], rfl, rfl, rfl, Nat.le_refl _, Nat.le_refl _⟩
theorem Tr.int {i : Int} (h : i.natAbs < 10 ^ 12) : Tr 0 41 (.int i) :=
  ⟨.int i, by simp [D.py], rfl, by simp only [PyData.showable, decide_eq_true_eq]; exact log_small h, by simp only [PyData.intsShort, decide_eq_true_eq]; exact PyData.shown_int_le h, Nat.le_refl _, wt_int h⟩
theorem Tr.str {s : Str} (h : PyData.strOk s = true) : Tr 0 s.length (.str s) := ⟨.str s, by simp [D.py], h, rfl, rfl, Nat.le_refl _, Nat.le_refl _⟩
theorem tr_all {k w : Nat} : ∀ {l : List D}, (∀ x ∈ l, Tr k w x) → ∃ ps, pyAll l = some ps ∧ PyData.canLayAll0 ps = true ∧ PyData.showableAll ps = true ∧ PyData.intsShortAll 13 ps = true ∧ PyData.depthAll ps ≤ k ∧ PyData.weightAll ps ≤ l.length * (w + 1)
  | [], _ => ⟨[], by simp [pyAll], rfl, rfl, rfl, Nat.zero_le _, Nat.zero_le _⟩
  | x :: l, h => by
    obtain ⟨p, e, h1, h2, h3, h4, h5⟩ := h x List.mem_cons_self
    obtain ⟨ps, e', g1, g2, g3, g4, g5⟩ := tr_all (l := l) fun y hy => h y (List.mem_cons_of_mem _ hy)
    refine ⟨p :: ps, by simp only [pyAll, e, e'], ?_, ?_, ?_, ?_, ?_⟩
    · simp only [PyData.canLayAll0, h1, g1, Bool.and_self]
    · simp only [PyData.showableAll, h2, g2, Bool.and_self]
    · simp only [PyData.intsShortAll, h3, g3, Bool.and_self]
    · simp only [PyData.depthAll]; omega
    · simp only [PyData.weightAll, List.length_cons, Nat.add_mul]; omega
theorem Tr.tup {k w n : Nat} {l : List D} (hl : l.length ≤ n) (h : ∀ x ∈ l, Tr k w x) : Tr (k + 1) (n * (w + 1)) (.tup l) := by
  obtain ⟨ps, e, h1, h2, h3, h4, h5⟩ := tr_all h
  have := Nat.mul_le_mul_right (w + 1) hl
  refine ⟨.tuple ps, by simp [D.py, e], by simpa [PyData.canLay0] using h1, by simpa [PyData.showable] using h2, by simpa [PyData.intsShort] using h3, by simp only [PyData.depth]; omega, ?_⟩
  simp only [PyData.weight]; omega
theorem Tr.lst {k w n : Nat} {l : List D} (hl : l.length ≤ n) (h : ∀ x ∈ l, Tr k w x) : Tr (k + 1) (n * (w + 1)) (.lst l) := by
  obtain ⟨ps, e, h1, h2, h3, h4, h5⟩ := tr_all h
  have := Nat.mul_le_mul_right (w + 1) hl
  refine ⟨.list ps, by simp [D.py, e], by simpa [PyData.canLay0] using h1, by simpa [PyData.showable] using h2, by simpa [PyData.intsShort] using h3, by simp only [PyData.depth]; omega, ?_⟩
  simp only [PyData.weight]; omega
theorem leaf_int {d : D} (h : leafD d = true) : ∃ i : Int, d = .int i ∧ 0 ≤ i ∧ i ≤ 99 := by
  unfold leafD among at h
  split at h
  · simp only [Bool.and_eq_true, decide_eq_true_eq] at h
    exact ⟨_, rfl, h⟩
  · cases h
theorem size_max : ∀ {k : Nat} {d : D}, sizeW k d ≤ 60
  | 0, d => by simp [sizeW]
  | k + 1, d => by
    by_cases p : 0 < sizeW (k + 1) d
    · by_cases lf : leafD d = true
      · have e : sizeW (k + 1) d = 1 := by simp only [sizeW, lf, if_true]
        omega
      · cases d with
        | tup l => obtain ⟨q1, q2, q3, q4⟩ := size_row p; omega
        | _ => simp [sizeW, lf] at p
    · omega
end Mi
/-! Mi24: rows refused. -/
namespace Mi
open PySem PySem.Spec PyProof.Rows L2
variable {X : Exc → Hh → Prop}
section
variable {T : Tab} {G : Str → Option D} {n : Nat} {h : Hh} {d x : D} {r : Row}
/-- the four that ask for a row first -/
def asks : List Str := ["thing_at", "things_ahead", "things_behind", "without"]
end
end Mi
/-! Mi25: windows on endless rows; lists put together. -/
namespace Mi
open PySem PySem.Spec PyProof.Rows L2
variable {X : Exc → Hh → Prop}
/-- the first things of an endless row, far enough -/
def th (s a : List D) (N : Nat) : List D := s ++ (List.replicate (1 + N / a.length) a).flatten
section
variable {h : Hh} {Q : R → Hh → Prop}
end
end Mi
namespace Mi.K20
open PySem PySem.Spec PyProof.Rows L2
abbrev prog : Program := PySem.Challenge.pw_waysfold_k20_what_is_a_pattern
def topS (i : Nat) : Stmt := prog.main.body.getD i (.Pass ⟨0, 0, 0, 0⟩)
def b_is_whole : Ss := (.cons (.ret (.and2 (.isi (.var 0) .int) (.not1 (.isi (.var 0) .bool)))) .nil)
def f_is_whole : Fn := ⟨1, 1, b_is_whole⟩

def b_is_among : Ss := (.cons (.ret (.and2 (.call "is_whole" (.cons (.var 0) .nil)) (.chain .le .le (.var 1) (.var 0) (.var 2)))) .nil)
def f_is_among : Fn := ⟨3, 3, b_is_among⟩

def b_is_name : Ss := (.cons (.ifs (.or2 (.not1 (.isi (.var 0) .str)) (.or2 (.not1 (.chain .le .le (.con (.int 1)) (.blt .len (.cons (.var 0) .nil)) (.glo "MOST_LETTERS"))) (.cmp .isin (.var 0) (.glo "BARRED")))) (.cons (.ret (.con (.bl false))) .nil) .nil) (.cons (.ret (.blt .all (.cons (.comp [1] (.nm 1) (.seq (.var 0)) (.con (.bl true)) (.cmp .isin (.var 1) (.glo "LETTERS"))) .nil))) .nil))
def f_is_name : Fn := ⟨1, 2, b_is_name⟩

def b_is_leaf : Ss := (.cons (.ret (.call "is_among" (.cons (.var 0) (.cons (.con (.int 0)) (.cons (.glo "MOST_LEAF") .nil))))) .nil)
def f_is_leaf : Fn := ⟨1, 1, b_is_leaf⟩

def b_size_within : Ss := (.cons (.ifs (.call "is_leaf" (.cons (.var 0) .nil)) (.cons (.ret (.ite (.cmp .gt (.var 1) (.con (.int 0))) (.con (.int 1)) (.con (.int 0)))) .nil) .nil) (.cons (.ifs (.or2 (.cmp .eq (.var 1) (.con (.int 0))) (.or2 (.not1 (.isi (.var 0) .tuple)) (.cmp .gt (.blt .len (.cons (.var 0) .nil)) (.glo "MOST_THINGS")))) (.cons (.ret (.con (.int 0))) .nil) .nil) (.cons (.asg 2 (.con (.int 1))) (.cons (.for' (.nm 3) (.seq (.var 0)) (.cons (.asg 4 (.call "size_within" (.cons (.var 3) (.cons (.bin .sub (.var 1) (.con (.int 1))) .nil)))) (.cons (.asg 2 (.bin .add (.var 2) (.var 4))) (.cons (.ifs (.or2 (.cmp .eq (.var 4) (.con (.int 0))) (.cmp .gt (.var 2) (.glo "MOST_SIZE"))) (.cons (.ret (.con (.int 0))) .nil) .nil) .nil)))) (.cons (.ret (.var 2)) .nil)))))
def f_size_within : Fn := ⟨2, 5, b_size_within⟩

def b_is_worth : Ss := (.cons (.ret (.cmp .gt (.call "size_within" (.cons (.var 0) (.cons (.glo "MOST_DEEP_worths") .nil))) (.con (.int 0)))) .nil)
def f_is_worth : Fn := ⟨1, 1, b_is_worth⟩

def b_are_items : Ss := (.cons (.ifs (.or2 (.not1 (.isi (.var 1) .tuple)) (.cmp .gt (.blt .len (.cons (.var 1) .nil)) (.gget "MOST_ITEMS" [(("row" : Str), .int 6), (("lot" : Str), .int 4)] (.var 0)))) (.cons (.ret (.con (.bl false))) .nil) .nil) (.cons (.for' (.tp [2, 3]) (.enum (.var 1)) (.cons (.ifs (.or2 (.not1 (.isi (.var 3) .tuple)) (.or2 (.cmp .ne (.blt .len (.cons (.var 3) .nil)) (.con (.int 2))) (.not1 (.isi (.ix (.var 3) (.con (.int 0))) .str)))) (.cons (.ret (.con (.bl false))) .nil) .nil) (.cons (.ifs (.and2 (.cmp .ne (.ix (.var 3) (.con (.int 0))) (.con (.str "one"))) (.not1 (.and2 (.cmp .eq (.ix (.var 3) (.con (.int 0))) (.con (.str "stretch"))) (.cmp .eq (.var 0) (.con (.str "row")))))) (.cons (.ifs (.or2 (.cmp .ne (.ix (.var 3) (.con (.int 0))) (.con (.str "rest"))) (.or2 (.cmp .ne (.var 0) (.con (.str "lot"))) (.cmp .lt (.var 2) (.bin .sub (.blt .len (.cons (.var 1) .nil)) (.con (.int 1)))))) (.cons (.ret (.con (.bl false))) .nil) .nil) .nil) .nil) .nil))) (.cons (.ret (.con (.bl true))) .nil)))
def f_are_items : Fn := ⟨2, 4, b_are_items⟩

def b_has_form : Ss := (.cons (.ifs (.or2 (.not1 (.isi (.var 0) .tuple)) (.or2 (.cmp .eq (.var 0) (.tup .nil)) (.not1 (.isi (.ix (.var 0) (.con (.int 0))) .str)))) (.cons (.ret (.con (.bl false))) .nil) .nil) (.cons (.asgs [1, 2] (.tup (.cons (.ix (.var 0) (.con (.int 0))) (.cons (.blt .len (.cons (.var 0) .nil)) .nil)))) (.cons (.ifs (.cmp .eq (.var 1) (.con (.str "any"))) (.cons (.ret (.cmp .eq (.var 2) (.con (.int 1)))) .nil) .nil) (.cons (.ifs (.cmp .isin (.var 1) (.glo "PAIRS")) (.cons (.ret (.cmp .eq (.var 2) (.con (.int 3)))) .nil) .nil) (.cons (.ifs (.cmp .eq (.var 1) (.con (.str "use"))) (.cons (.ret (.and2 (.cmp .eq (.var 2) (.con (.int 3))) (.and2 (.call "is_name" (.cons (.ix (.var 0) (.con (.int 1))) .nil)) (.and2 (.isi (.ix (.var 0) (.con (.int 2))) .tuple) (.cmp .le (.blt .len (.cons (.ix (.var 0) (.con (.int 2))) .nil)) (.glo "MOST_ARGS")))))) .nil) .nil) (.cons (.ifs (.cmp .ne (.var 2) (.con (.int 2))) (.cons (.ret (.con (.bl false))) .nil) .nil) (.cons (.ifs (.cmp .isin (.var 1) (.tup (.cons (.con (.str "name")) (.cons (.con (.str "hole")) .nil)))) (.cons (.ret (.call "is_name" (.cons (.ix (.var 0) (.con (.int 1))) .nil))) .nil) .nil) (.cons (.ifs (.gin "MOST_ITEMS" [(("row" : Str), .int 6), (("lot" : Str), .int 4)] (.var 1)) (.cons (.ret (.call "are_items" (.cons (.var 1) (.cons (.ix (.var 0) (.con (.int 1))) .nil)))) .nil) .nil) (.cons (.ret (.or2 (.cmp .isin (.var 1) (.glo "LONE")) (.and2 (.cmp .eq (.var 1) (.con (.str "is"))) (.call "is_worth" (.cons (.ix (.var 0) (.con (.int 1))) .nil))))) .nil)))))))))
def f_has_form : Fn := ⟨1, 3, b_has_form⟩

def b_within : Ss := (.cons (.asg 1 (.ix (.var 0) (.con (.int 0)))) (.cons (.ifs (.or2 (.cmp .isin (.var 1) (.glo "PAIRS")) (.cmp .isin (.var 1) (.glo "LONE"))) (.cons (.ret (.blt .toList (.cons (.sl (.var 0) (.part (.con (.int 1))) .no) .nil))) .nil) .nil) (.cons (.ifs (.gin "MOST_ITEMS" [(("row" : Str), .int 6), (("lot" : Str), .int 4)] (.var 1)) (.cons (.ret (.comp [2] (.nm 2) (.seq (.ix (.var 0) (.con (.int 1)))) (.con (.bl true)) (.ix (.var 2) (.con (.int 1))))) .nil) .nil) (.cons (.ret (.ite (.cmp .eq (.var 1) (.con (.str "use"))) (.blt .toList (.cons (.ix (.var 0) (.con (.int 2))) .nil)) (.lst .nil))) .nil))))
def f_within : Fn := ⟨1, 3, b_within⟩

def b_parts_within : Ss := (.cons (.ifs (.or2 (.cmp .eq (.var 1) (.con (.int 0))) (.not1 (.call "has_form" (.cons (.var 0) .nil)))) (.cons (.ret (.con (.int 0))) .nil) .nil) (.cons (.asg 2 (.con (.int 1))) (.cons (.for' (.nm 3) (.seq (.call "within" (.cons (.var 0) .nil))) (.cons (.asg 4 (.call "parts_within" (.cons (.var 3) (.cons (.bin .sub (.var 1) (.con (.int 1))) .nil)))) (.cons (.asg 2 (.bin .add (.var 2) (.var 4))) (.cons (.ifs (.or2 (.cmp .eq (.var 4) (.con (.int 0))) (.cmp .gt (.var 2) (.glo "MOST_PARTS"))) (.cons (.ret (.con (.int 0))) .nil) .nil) .nil)))) (.cons (.ret (.var 2)) .nil))))
def f_parts_within : Fn := ⟨2, 5, b_parts_within⟩

def b_is_pattern : Ss := (.cons (.ret (.cmp .gt (.call "parts_within" (.cons (.var 0) (.cons (.glo "MOST_DEEP_patterns") .nil))) (.con (.int 0)))) .nil)
def f_is_pattern : Fn := ⟨1, 1, b_is_pattern⟩

def b__law_mixed : Ss := (.cons (.asg 2 (.bin .add (.bin .add (.bin .mod (.bin .mul (.bin .mul (.var 0) (.bin .add (.con (.int 1)) (.bin .mul (.con (.int 2)) (.var 1)))) (.con (.int 48271))) (.con (.int 2147483647))) (.bin .mul (.bin .mul (.con (.int 7919)) (.var 1)) (.var 1))) (.bin .mul (.con (.int 104729)) (.var 1)))) (.cons (.ret (.bin .fdiv (.bin .mod (.bin .mul (.var 2) (.con (.int 69621))) (.con (.int 2147483629))) (.con (.int 7)))) .nil))
def f__law_mixed : Fn := ⟨2, 3, b__law_mixed⟩

def b__law_folded : Ss := (.cons (.own 1 (.comp [2] (.nm 2) (.rng1 (.con (.int 64))) (.con (.bl true)) (.bin .add (.con (.int 17)) (.var 2)))) (.cons (.for' (.tp [2, 3]) (.enum (.var 0)) (.cons (.setOwn 1 (.bin .mod (.var 2) (.con (.int 64))) (.bin .mod (.bin .add (.bin .mul (.ix (.var 1) (.bin .mod (.var 2) (.con (.int 64)))) (.con (.int 48271))) (.var 3)) (.con (.int 2147483647)))) .nil)) (.cons (.for' (.nm 2) (.rng2 (.con (.int 1)) (.con (.int 64))) (.cons (.setOwn 1 (.var 2) (.bin .mod (.bin .add (.ix (.var 1) (.var 2)) (.bin .mul (.ix (.var 1) (.bin .sub (.var 2) (.con (.int 1)))) (.con (.int 16807)))) (.con (.int 2147483647)))) .nil)) (.cons (.retV 1) .nil))))
def f__law_folded : Fn := ⟨1, 4, b__law_folded⟩

def b__law_draw : Ss := (.cons (.asg 2 (.dget (.var 0) (.con (.str "at")))) (.cons (.setD (.var 0) (.con (.str "at")) (.bin .add (.var 2) (.con (.int 1)))) (.cons (.ifs (.cmp .ne (.dget (.var 0) (.con (.str "left"))) (.lst .nil)) (.cons (.asg 3 (.bin .mod (.var 2) (.blt .len (.cons (.dget (.var 0) (.con (.str "left"))) .nil)))) (.cons (.asg 4 (.ix (.dget (.var 0) (.con (.str "left"))) (.var 3))) (.cons (.ifs (.cmp .gt (.var 4) (.con (.int 0))) (.cons (.setL (.dget (.var 0) (.con (.str "left"))) (.var 3) (.bin .fdiv (.var 4) (.var 1))) (.cons (.ret (.bin .mod (.var 4) (.var 1))) .nil)) .nil) .nil))) .nil) (.cons (.ret (.bin .mod (.call "_law_mixed" (.cons (.call "_law_mixed" (.cons (.bin .add (.ix (.dget (.var 0) (.con (.str "cells"))) (.bin .mod (.var 2) (.con (.int 64)))) (.bin .mul (.con (.int 31)) (.bin .fdiv (.var 2) (.con (.int 64))))) (.cons (.var 2) .nil))) (.cons (.bin .add (.var 2) (.con (.int 7))) .nil))) (.var 1))) .nil))))
def f__law_draw : Fn := ⟨2, 5, b__law_draw⟩

def b__law_begun : Ss := (.cons (.asg 1 (.dct [.inr "cells", .inr "left", .inr "at"] (.cons (.promo (.call "_law_folded" (.cons (.var 0) .nil))) (.cons (.promo (.lst .nil)) (.cons (.con (.int 0)) .nil))))) (.cons (.setD (.var 1) (.con (.str "left")) (.promo (.comp [2] (.nm 2) (.seq (.var 0)) (.con (.bl true)) (.ite (.cmp .ge (.var 2) (.bin .pow (.con (.int 10)) (.con (.int 18)))) (.var 2) (.con (.int 0)))))) (.cons (.ret (.var 1)) .nil)))
def f__law_begun : Fn := ⟨1, 3, b__law_begun⟩

def b__law_words : Ss := (.cons (.asg 2 (.con (.str "abcdefghijklmnopqrstuvwxyz"))) (.cons (.asgs [3, 4] (.tup (.cons (.call "_law_draw" (.cons (.var 0) (.cons (.con (.int 26)) .nil))) (.cons (.call "_law_draw" (.cons (.var 0) (.cons (.con (.int 4)) .nil))) .nil)))) (.cons (.asg 5 (.bin .add (.con (.int 1)) (.call "_law_draw" (.cons (.var 0) (.cons (.con (.int 6)) .nil))))) (.cons (.asg 6 (.call "_law_draw" (.cons (.var 0) (.cons (.var 5) .nil)))) (.cons (.asg 7 (.ix (.lst (.cons (.con (.int 1)) (.cons (.con (.int 3)) (.cons (.con (.int 7)) (.cons (.con (.int 11)) (.cons (.con (.int 17)) (.cons (.con (.int 25)) .nil))))))) (.call "_law_draw" (.cons (.var 0) (.cons (.con (.int 6)) .nil))))) (.cons (.asg 8 (.mth .join (.con (.str "")) (.cons (.comp [13] (.nm 13) (.rng1 (.con (.int 8))) (.con (.bl true)) (.ix (.var 2) (.bin .mod (.bin .add (.var 3) (.bin .mul (.con (.int 5)) (.var 13))) (.con (.int 26))))) .nil))) (.cons (.own 9 (.lst .nil)) (.cons (.for' (.nm 10) (.rng1 (.var 1)) (.cons (.asg 11 (.ix (.var 2) (.bin .mod (.bin .add (.var 3) (.bin .mul (.var 7) (.var 10))) (.con (.int 26))))) (.cons (.app 9 (.ite (.cmp .eq (.var 4) (.con (.int 3))) (.bin .add (.var 11) (.sl (.var 8) .no (.part (.bin .mod (.bin .mul (.var 10) (.var 7)) (.con (.int 6)))))) (.bin .add (.bin .add (.sl (.var 8) .no (.part (.var 6))) (.var 11)) (.sl (.var 8) (.part (.bin .add (.var 6) (.con (.int 1)))) (.part (.var 5)))))) .nil))) (.cons (.asg 12 (.lst (.cons (.con (.str "any")) (.cons (.con (.str "is")) (.cons (.con (.str "name")) (.cons (.con (.str "both")) (.cons (.con (.str "either")) (.cons (.con (.str "not")) (.cons (.con (.str "first")) (.cons (.con (.str "row")) (.cons (.con (.str "lot")) (.cons (.con (.str "turned")) (.cons (.con (.str "all")) (.cons (.con (.str "use")) (.cons (.con (.str "hole")) .nil))))))))))))))) (.cons (.asg 12 (.bin .add (.var 12) (.lst (.cons (.con (.str "one")) (.cons (.con (.str "stretch")) (.cons (.con (.str "rest")) (.cons (.con (.str "rule")) (.cons (.con (.str "end")) .nil)))))))) (.cons (.frz 9) (.cons (.ret (.comp [14] (.nm 14) (.seq (.var 9)) (.con (.bl true)) (.ite (.cmp .notin (.var 14) (.var 12)) (.var 14) (.bin .add (.bin .add (.con (.str "zz")) (.sl (.var 14) .no (.part (.con (.int 1))))) (.con (.str "z")))))) .nil))))))))))))
def f__law_words : Fn := ⟨2, 15, b__law_words⟩

def b__law_leaf : Ss := (.cons (.ret (.ix (.lst (.cons (.con (.int 0)) (.cons (.con (.int 1)) (.cons (.con (.int 2)) (.cons (.con (.int 1)) (.cons (.con (.int 2)) (.cons (.con (.int 5)) (.cons (.con (.int 99)) (.cons (.call "_law_draw" (.cons (.var 0) (.cons (.con (.int 100)) .nil))) .nil))))))))) (.call "_law_draw" (.cons (.var 0) (.cons (.con (.int 8)) .nil))))) .nil)
def f__law_leaf : Fn := ⟨1, 1, b__law_leaf⟩

def b__law_row : Ss := (.cons (.asg 2 (.lst (.cons (.call "_law_draw" (.cons (.var 0) (.cons (.con (.int 3)) .nil))) (.cons (.call "_law_draw" (.cons (.var 0) (.cons (.con (.int 3)) .nil))) (.cons (.con (.int 5)) (.cons (.tup (.cons (.con (.int 1)) .nil)) (.cons (.tup .nil) (.cons (.tup (.cons (.con (.int 1)) (.cons (.con (.int 2)) .nil))) (.cons (.tup (.cons (.con (.int 2)) (.cons (.con (.int 1)) .nil))) (.cons (.call "_law_leaf" (.cons (.var 0) .nil)) .nil)))))))))) (.cons (.ret (.blt .toTuple (.cons (.comp [3] (.nm 3) (.rng1 (.call "_law_draw" (.cons (.var 0) (.cons (.bin .add (.var 1) (.con (.int 1))) .nil)))) (.con (.bl true)) (.ix (.var 2) (.call "_law_draw" (.cons (.var 0) (.cons (.ix (.lst (.cons (.con (.int 3)) (.cons (.con (.int 4)) (.cons (.con (.int 8)) .nil)))) (.call "_law_draw" (.cons (.var 0) (.cons (.con (.int 3)) .nil)))) .nil))))) .nil))) .nil))
def f__law_row : Fn := ⟨2, 4, b__law_row⟩

def b__law_item_parts : Ss := (.cons (.own 6 (.lst .nil)) (.cons (.for' (.nm 7) (.rng1 (.call "_law_draw" (.cons (.var 0) (.cons (.con (.int 4)) .nil)))) (.cons (.asg 8 (.ite (.cmp .eq (.var 5) (.con (.str "row"))) (.ix (.lst (.cons (.con (.str "one")) (.cons (.con (.str "one")) (.cons (.con (.str "stretch")) .nil)))) (.call "_law_draw" (.cons (.var 0) (.cons (.con (.int 3)) .nil)))) (.con (.str "one")))) (.cons (.app 6 (.tup (.cons (.var 8) (.cons (.call "_law_pattern" (.cons (.var 0) (.cons (.var 1) (.cons (.var 2) (.cons (.var 3) (.cons (.var 4) .nil)))))) .nil)))) .nil))) (.cons (.ifs (.cmp .gt (.call "_law_draw" (.cons (.var 0) (.cons (.con (.int 3)) .nil))) (.con (.int 0))) (.cons (.app 6 (.tup (.cons (.ite (.cmp .eq (.var 5) (.con (.str "row"))) (.con (.str "stretch")) (.con (.str "rest"))) (.cons (.call "_law_pattern" (.cons (.var 0) (.cons (.var 1) (.cons (.var 2) (.cons (.var 3) (.cons (.var 4) .nil)))))) .nil)))) .nil) .nil) (.cons (.frz 6) (.cons (.ret (.blt .toTuple (.cons (.var 6) .nil))) .nil)))))
def f__law_item_parts : Fn := ⟨6, 9, b__law_item_parts⟩

def b__law_pattern : Ss := (.cons (.asg 5 (.call "_law_draw" (.cons (.var 0) (.cons (.con (.int 16)) .nil)))) (.cons (.setL (.var 4) (.con (.int 0)) (.bin .sub (.ix (.var 4) (.con (.int 0))) (.con (.int 1)))) (.cons (.asg 6 (.lst (.cons (.tup (.cons (.con (.str "any")) .nil)) (.cons (.tup (.cons (.con (.str "name")) (.cons (.ix (.var 1) (.call "_law_draw" (.cons (.var 0) (.cons (.con (.int 2)) .nil)))) .nil))) (.cons (.tup (.cons (.con (.str "name")) (.cons (.ix (.var 1) (.call "_law_draw" (.cons (.var 0) (.cons (.blt .len (.cons (.var 1) .nil)) .nil)))) .nil))) (.cons (.tup (.cons (.con (.str "is")) (.cons (.call "_law_leaf" (.cons (.var 0) .nil)) .nil))) .nil)))))) (.cons (.ifs (.or2 (.cmp .lt (.var 3) (.con (.int 2))) (.or2 (.cmp .lt (.ix (.var 4) (.con (.int 0))) (.con (.int 4))) (.cmp .lt (.var 5) (.con (.int 5))))) (.cons (.ret (.ix (.bin .add (.var 6) (.lst (.cons (.tup (.cons (.con (.str "is")) (.cons (.call "_law_row" (.cons (.var 0) (.cons (.con (.int 2)) .nil))) .nil))) .nil))) (.bin .mod (.var 5) (.con (.int 5))))) .nil) .nil) (.cons (.ifs (.and2 (.cmp .lt (.var 5) (.con (.int 7))) (.cmp .ne (.var 2) (.lst .nil))) (.cons (.asg 7 (.ix (.var 2) (.call "_law_draw" (.cons (.var 0) (.cons (.blt .len (.cons (.var 2) .nil)) .nil))))) (.cons (.ifs (.cmp .eq (.ix (.var 7) (.con (.int 0))) (.con (.str "hole"))) (.cons (.ret (.var 7)) .nil) .nil) (.cons (.asg 8 (.comp [10] (.nm 10) (.seq (.ix (.var 7) (.con (.int 2)))) (.con (.bl true)) (.call "_law_pattern" (.cons (.var 0) (.cons (.var 1) (.cons (.var 2) (.cons (.bin .sub (.var 3) (.con (.int 1))) (.cons (.var 4) .nil)))))))) (.cons (.ret (.bin .add (.sl (.var 7) .no (.part (.con (.int 2)))) (.tup (.cons (.blt .toTuple (.cons (.var 8) .nil)) .nil)))) .nil)))) .nil) (.cons (.ifs (.cmp .lt (.var 5) (.con (.int 12))) (.cons (.asg 9 (.ite (.cmp .gt (.var 5) (.con (.int 6))) (.ix (.lst (.cons (.con (.str "row")) (.cons (.con (.str "row")) (.cons (.con (.str "row")) (.cons (.con (.str "lot")) (.cons (.con (.str "row")) .nil)))))) (.bin .sub (.var 5) (.con (.int 7)))) (.con (.str "lot")))) (.cons (.ret (.tup (.cons (.var 9) (.cons (.call "_law_item_parts" (.cons (.var 0) (.cons (.var 1) (.cons (.var 2) (.cons (.bin .sub (.var 3) (.con (.int 1))) (.cons (.var 4) (.cons (.var 9) .nil))))))) .nil)))) .nil)) .nil) (.cons (.ifs (.cmp .lt (.var 5) (.con (.int 14))) (.cons (.asg 10 (.call "_law_pattern" (.cons (.var 0) (.cons (.var 1) (.cons (.var 2) (.cons (.bin .sub (.var 3) (.con (.int 1))) (.cons (.var 4) .nil))))))) (.cons (.ret (.tup (.cons (.ix (.lst (.cons (.con (.str "both")) (.cons (.con (.str "either")) .nil))) (.bin .sub (.var 5) (.con (.int 12)))) (.cons (.var 10) (.cons (.call "_law_pattern" (.cons (.var 0) (.cons (.var 1) (.cons (.var 2) (.cons (.bin .sub (.var 3) (.con (.int 1))) (.cons (.var 4) .nil)))))) .nil))))) .nil)) .nil) (.cons (.asg 9 (.ix (.lst (.cons (.con (.str "not")) (.cons (.con (.str "first")) (.cons (.con (.str "turned")) (.cons (.con (.str "all")) .nil))))) (.call "_law_draw" (.cons (.var 0) (.cons (.con (.int 4)) .nil))))) (.cons (.ret (.tup (.cons (.var 9) (.cons (.call "_law_pattern" (.cons (.var 0) (.cons (.var 1) (.cons (.var 2) (.cons (.bin .sub (.var 3) (.con (.int 1))) (.cons (.var 4) .nil)))))) .nil)))) .nil)))))))))
def f__law_pattern : Fn := ⟨5, 11, b__law_pattern⟩

def b__law_is_name : Ss := (.cons (.asg 1 (.mth .split (.con (.str "any is name both either not first row lot turned all use hole one stretch rest rule end")) (.cons (.con (.str " ")) .nil))) (.cons (.ifs (.or2 (.not1 (.isi (.var 0) .str)) (.or2 (.not1 (.chain .le .le (.con (.int 1)) (.blt .len (.cons (.var 0) .nil)) (.con (.int 6)))) (.cmp .isin (.var 0) (.var 1)))) (.cons (.ret (.con (.bl false))) .nil) .nil) (.cons (.ret (.cmp .eq (.comp [2] (.nm 2) (.seq (.var 0)) (.cmp .notin (.var 2) (.con (.str "abcdefghijklmnopqrstuvwxyz"))) (.var 2)) (.lst .nil))) .nil)))
def f__law_is_name : Fn := ⟨1, 3, b__law_is_name⟩

def b__law_size : Ss := (.cons (.ifs (.and2 (.isi (.var 0) .int) (.and2 (.not1 (.isi (.var 0) .bool)) (.cmp .gt (.var 1) (.con (.int 0))))) (.cons (.ret (.ite (.chain .le .le (.con (.int 0)) (.var 0) (.con (.int 99))) (.con (.int 1)) (.con (.int 100)))) .nil) .nil) (.cons (.ifs (.or2 (.not1 (.isi (.var 0) .tuple)) (.or2 (.cmp .eq (.var 1) (.con (.int 0))) (.cmp .gt (.blt .len (.cons (.var 0) .nil)) (.con (.int 10))))) (.cons (.ret (.con (.int 100))) .nil) .nil) (.cons (.ret (.bin .add (.con (.int 1)) (.blt .sum (.cons (.comp [2] (.nm 2) (.seq (.var 0)) (.con (.bl true)) (.call "_law_size" (.cons (.var 2) (.cons (.bin .sub (.var 1) (.con (.int 1))) .nil)))) .nil)))) .nil)))
def f__law_size : Fn := ⟨2, 3, b__law_size⟩

def b__law_inner : Ss := (.cons (.ifs (.cmp .isin (.var 0) (.tup (.cons (.con (.str "both")) (.cons (.con (.str "either")) .nil)))) (.cons (.ret (.ite (.cmp .eq (.blt .len (.cons (.var 1) .nil)) (.con (.int 2))) (.blt .toList (.cons (.var 1) .nil)) (.con .non))) .nil) .nil) (.cons (.ifs (.cmp .isin (.var 0) (.tup (.cons (.con (.str "not")) (.cons (.con (.str "first")) (.cons (.con (.str "turned")) (.cons (.con (.str "all")) .nil)))))) (.cons (.ret (.ite (.cmp .eq (.blt .len (.cons (.var 1) .nil)) (.con (.int 1))) (.blt .toList (.cons (.var 1) .nil)) (.con .non))) .nil) .nil) (.cons (.ifs (.cmp .eq (.var 0) (.con (.str "use"))) (.cons (.asg 2 (.and2 (.cmp .eq (.blt .len (.cons (.var 1) .nil)) (.con (.int 2))) (.and2 (.call "_law_is_name" (.cons (.ix (.var 1) (.con (.int 0))) .nil)) (.and2 (.isi (.ix (.var 1) (.con (.int 1))) .tuple) (.cmp .lt (.blt .len (.cons (.ix (.var 1) (.con (.int 1))) .nil)) (.con (.int 3))))))) (.cons (.ret (.ite (.var 2) (.blt .toList (.cons (.ix (.var 1) (.con (.int 1))) .nil)) (.con .non))) .nil)) .nil) (.cons (.ifs (.or2 (.cmp .notin (.var 0) (.tup (.cons (.con (.str "row")) (.cons (.con (.str "lot")) .nil)))) (.or2 (.cmp .ne (.blt .len (.cons (.var 1) .nil)) (.con (.int 1))) (.not1 (.isi (.ix (.var 1) (.con (.int 0))) .tuple)))) (.cons (.ret (.con .non)) .nil) .nil) (.cons (.for' (.tp [3, 4]) (.enum (.ix (.var 1) (.con (.int 0)))) (.cons (.ifs (.or2 (.not1 (.isi (.var 4) .tuple)) (.or2 (.cmp .ne (.blt .len (.cons (.var 4) .nil)) (.con (.int 2))) (.not1 (.isi (.ix (.var 4) (.con (.int 0))) .str)))) (.cons (.ret (.con .non)) .nil) .nil) (.cons (.asg 5 (.ite (.cmp .eq (.var 0) (.con (.str "row"))) (.lst (.cons (.con (.str "stretch")) .nil)) (.bin .mul (.lst (.cons (.con (.str "rest")) .nil)) (.blt .toInt (.cons (.cmp .eq (.var 3) (.bin .sub (.blt .len (.cons (.ix (.var 1) (.con (.int 0))) .nil)) (.con (.int 1)))) .nil))))) (.cons (.ifs (.cmp .notin (.ix (.var 4) (.con (.int 0))) (.bin .add (.lst (.cons (.con (.str "one")) .nil)) (.var 5))) (.cons (.ret (.con .non)) .nil) .nil) .nil)))) (.cons (.ret (.ite (.cmp .lt (.blt .len (.cons (.ix (.var 1) (.con (.int 0))) .nil)) (.ix (.lst (.cons (.con (.int 5)) (.cons (.con (.int 7)) .nil))) (.blt .toInt (.cons (.cmp .eq (.var 0) (.con (.str "row"))) .nil)))) (.comp [4] (.nm 4) (.seq (.ix (.var 1) (.con (.int 0)))) (.con (.bl true)) (.ix (.var 4) (.con (.int 1)))) (.con .non))) .nil))))))
def f__law_inner : Fn := ⟨2, 6, b__law_inner⟩

def b__law_parts : Ss := (.cons (.ifs (.or2 (.cmp .eq (.var 1) (.con (.int 0))) (.or2 (.not1 (.isi (.var 0) .tuple)) (.or2 (.cmp .eq (.var 0) (.tup .nil)) (.not1 (.isi (.ix (.var 0) (.con (.int 0))) .str))))) (.cons (.ret (.con (.int 100))) .nil) .nil) (.cons (.asgs [2, 3] (.tup (.cons (.ix (.var 0) (.con (.int 0))) (.cons (.sl (.var 0) (.part (.con (.int 1))) .no) .nil)))) (.cons (.ifs (.cmp .eq (.var 2) (.con (.str "any"))) (.cons (.ret (.ite (.cmp .eq (.var 3) (.tup .nil)) (.con (.int 1)) (.con (.int 100)))) .nil) .nil) (.cons (.ifs (.cmp .isin (.var 2) (.tup (.cons (.con (.str "is")) (.cons (.con (.str "name")) (.cons (.con (.str "hole")) .nil))))) (.cons (.ifs (.cmp .ne (.blt .len (.cons (.var 3) .nil)) (.con (.int 1))) (.cons (.ret (.con (.int 100))) .nil) .nil) (.cons (.ret (.ite (.ite (.cmp .eq (.var 2) (.con (.str "is"))) (.cmp .lt (.call "_law_size" (.cons (.ix (.var 3) (.con (.int 0))) (.cons (.con (.int 6)) .nil))) (.con (.int 61))) (.call "_law_is_name" (.cons (.ix (.var 3) (.con (.int 0))) .nil))) (.con (.int 1)) (.con (.int 100)))) .nil)) .nil) (.cons (.asg 4 (.call "_law_inner" (.cons (.var 2) (.cons (.var 3) .nil)))) (.cons (.ret (.ite (.cmp .is (.var 4) (.con .non)) (.con (.int 100)) (.bin .add (.con (.int 1)) (.blt .sum (.cons (.comp [5] (.nm 5) (.seq (.var 4)) (.con (.bl true)) (.call "_law_parts" (.cons (.var 5) (.cons (.bin .sub (.var 1) (.con (.int 1))) .nil)))) .nil))))) .nil))))))
def f__law_parts : Fn := ⟨2, 6, b__law_parts⟩

def b__law_spots : Ss := (.cons (.asg 2 (.lst (.cons (.var 1) .nil))) (.cons (.for' (.tp [3, 4]) (.enum (.ite (.isi (.var 0) .tuple) (.var 0) (.tup .nil))) (.cons (.asg 2 (.bin .add (.var 2) (.call "_law_spots" (.cons (.var 4) (.cons (.bin .add (.var 1) (.lst (.cons (.var 3) .nil))) .nil))))) .nil)) (.cons (.ret (.var 2)) .nil)))
def f__law_spots : Fn := ⟨2, 5, b__law_spots⟩

def b__law_at : Ss := (.cons (.for' (.nm 2) (.seq (.var 1)) (.cons (.asg 0 (.ix (.var 0) (.var 2))) .nil)) (.cons (.ret (.var 0)) .nil))
def f__law_at : Fn := ⟨2, 3, b__law_at⟩

def b__law_put : Ss := (.cons (.ifs (.cmp .eq (.var 1) (.lst .nil)) (.cons (.ret (.var 2)) .nil) .nil) (.cons (.asg 3 (.ix (.var 1) (.con (.int 0)))) (.cons (.ret (.bin .add (.bin .add (.sl (.var 0) .no (.part (.var 3))) (.tup (.cons (.call "_law_put" (.cons (.ix (.var 0) (.var 3)) (.cons (.sl (.var 1) (.part (.con (.int 1))) .no) (.cons (.var 2) .nil)))) .nil))) (.sl (.var 0) (.part (.bin .add (.var 3) (.con (.int 1)))) .no))) .nil)))
def f__law_put : Fn := ⟨3, 4, b__law_put⟩

def b__law_odd : Ss := (.cons (.asg 1 (.lst (.cons (.con .non) (.cons (.con (.int 5)) (.cons (.neg (.con (.int 1))) (.cons (.con (.int 100)) (.cons (.con (.bl true)) (.cons (.con (.str "any")) (.cons (.con (.str "x")) (.cons (.con (.str "")) (.cons (.tup .nil) (.cons (.lst .nil) (.cons (.dct [] .nil) (.cons (.tup (.cons (.con (.str "any")) .nil)) (.cons (.tup (.cons (.con (.str "is")) (.cons (.con (.int 3)) .nil))) (.cons (.tup (.cons (.con (.str "is")) (.cons (.con (.bl true)) .nil))) (.cons (.tup (.cons (.con (.str "is")) (.cons (.con (.int 100)) .nil))) .nil))))))))))))))))) (.cons (.asg 1 (.bin .add (.var 1) (.lst (.cons (.tup (.cons (.con (.str "name")) (.cons (.con (.str "x")) .nil))) (.cons (.tup (.cons (.con (.str "name")) (.cons (.con (.str "end")) .nil))) (.cons (.tup (.cons (.con (.str "name")) (.cons (.con (.str "seventh")) .nil))) (.cons (.tup (.cons (.con (.str "hole")) (.cons (.con (.str "x")) .nil))) (.cons (.tup (.cons (.con (.str "use")) (.cons (.con (.str "x")) (.cons (.tup .nil) .nil)))) (.cons (.con (.str "end")) .nil))))))))) (.cons (.asg 1 (.bin .add (.var 1) (.lst (.cons (.tup (.cons (.con (.str "rest")) (.cons (.tup (.cons (.con (.str "any")) .nil)) .nil))) (.cons (.tup (.cons (.con (.str "one")) (.cons (.tup (.cons (.con (.str "any")) .nil)) .nil))) (.cons (.tup (.cons (.con (.str "stretch")) (.cons (.tup (.cons (.con (.str "any")) .nil)) .nil))) (.cons (.tup (.cons (.con (.str "row")) (.cons (.tup .nil) .nil))) (.cons (.tup (.cons (.con (.str "lot")) (.cons (.lst .nil) .nil))) .nil)))))))) (.cons (.asg 1 (.bin .add (.var 1) (.lst (.cons (.tup (.cons (.con (.str "both")) (.cons (.tup (.cons (.con (.str "any")) .nil)) .nil))) (.cons (.tup (.cons (.con (.int 5)) .nil)) (.cons (.tup (.cons (.con (.str "rule")) (.cons (.con (.str "x")) (.cons (.tup .nil) (.cons (.tup (.cons (.con (.str "any")) .nil)) .nil))))) (.cons (.lst (.cons (.con (.str "any")) .nil)) (.cons (.tup (.cons (.con (.str "not")) (.cons (.tup (.cons (.con (.str "any")) .nil)) .nil))) (.cons (.con (.str "Any")) .nil))))))))) (.cons (.asg 1 (.bin .add (.var 1) (.lst (.cons (.con (.str "stretch")) (.cons (.tup (.cons (.con (.str "any")) (.cons (.con (.int 1)) .nil))) (.cons (.tup (.cons (.con (.str "use")) (.cons (.con (.str "x")) .nil))) .nil)))))) (.cons (.ret (.ix (.var 1) (.call "_law_draw" (.cons (.var 0) (.cons (.blt .len (.cons (.var 1) .nil)) .nil))))) .nil))))))
def f__law_odd : Fn := ⟨1, 2, b__law_odd⟩

def b__law_spoilt : Ss := (.cons (.asgs [2, 3] (.tup (.cons (.call "_law_draw" (.cons (.var 0) (.cons (.con (.int 3)) .nil))) (.cons (.call "_law_spots" (.cons (.var 1) (.cons (.lst .nil) .nil))) .nil)))) (.cons (.asg 4 (.ix (.var 3) (.call "_law_draw" (.cons (.var 0) (.cons (.blt .len (.cons (.var 3) .nil)) .nil))))) (.cons (.asg 5 (.call "_law_at" (.cons (.var 1) (.cons (.var 4) .nil)))) (.cons (.ifs (.or2 (.cmp .eq (.var 2) (.con (.int 0))) (.not1 (.isi (.var 5) .tuple))) (.cons (.ret (.call "_law_put" (.cons (.var 1) (.cons (.var 4) (.cons (.call "_law_odd" (.cons (.var 0) .nil)) .nil))))) .nil) .nil) (.cons (.asg 6 (.call "_law_draw" (.cons (.var 0) (.cons (.bin .add (.blt .len (.cons (.var 5) .nil)) (.con (.int 1))) .nil)))) (.cons (.asg 7 (.lst (.cons (.bin .add (.sl (.var 5) .no (.part (.var 6))) (.sl (.var 5) (.part (.bin .add (.var 6) (.con (.int 1)))) .no)) (.cons (.bin .add (.bin .add (.sl (.var 5) .no (.part (.var 6))) (.sl (.sl (.var 5) .no (.part (.var 6))) (.part (.neg (.con (.int 1)))) .no)) (.sl (.var 5) (.part (.var 6)) .no)) (.cons (.rev (.var 5)) (.cons (.blt .toList (.cons (.var 5) .nil)) .nil)))))) (.cons (.ret (.call "_law_put" (.cons (.var 1) (.cons (.var 4) (.cons (.ix (.bin .add (.var 7) (.lst (.cons (.bin .add (.var 5) (.tup (.cons (.tup (.cons (.con (.str "any")) .nil)) .nil))) .nil))) (.call "_law_draw" (.cons (.var 0) (.cons (.con (.int 5)) .nil)))) .nil))))) .nil)))))))
def f__law_spoilt : Fn := ⟨2, 8, b__law_spoilt⟩

def b__law_truths : Ss := (.cons (.ifs (.isi (.var 0) .tuple) (.cons (.ret (.blt .toTuple (.cons (.comp [1] (.nm 1) (.seq (.var 0)) (.con (.bl true)) (.call "_law_truths" (.cons (.var 1) .nil))) .nil))) .nil) .nil) (.cons (.ret (.ite (.and2 (.isi (.var 0) .int) (.cmp .isin (.var 0) (.tup (.cons (.con (.int 0)) (.cons (.con (.int 1)) .nil))))) (.cmp .eq (.var 0) (.con (.int 1))) (.var 0))) .nil))
def f__law_truths : Fn := ⟨1, 2, b__law_truths⟩

def b__law_known : Ss := (.cons (.asg 1 (.tup (.cons (.con (.str "any")) .nil))) (.cons (.ret (.lst (.cons (.tup (.cons (.con (.str "use")) (.cons (.ix (.var 0) (.con (.int 0))) (.cons (.tup (.cons (.var 1) .nil)) .nil)))) (.cons (.tup (.cons (.con (.str "hole")) (.cons (.ix (.var 0) (.con (.int 1))) .nil))) (.cons (.tup (.cons (.con (.str "use")) (.cons (.ix (.var 0) (.con (.int 2))) (.cons (.tup .nil) .nil)))) (.cons (.tup (.cons (.con (.str "use")) (.cons (.ix (.var 0) (.con (.int 3))) (.cons (.tup (.cons (.var 1) (.cons (.var 1) .nil))) .nil)))) (.cons (.tup (.cons (.con (.str "hole")) (.cons (.ix (.var 0) (.con (.int 4))) .nil))) .nil))))))) .nil))
def f__law_known : Fn := ⟨1, 2, b__law_known⟩

def b__law_wrapped : Ss := (.cons (.for' (.nm 3) (.rng1 (.var 2)) (.cons (.asg 4 (.lst (.cons (.tup (.cons (.con (.str "not")) (.cons (.var 1) .nil))) (.cons (.tup (.cons (.con (.str "first")) (.cons (.var 1) .nil))) (.cons (.tup (.cons (.con (.str "turned")) (.cons (.var 1) .nil))) (.cons (.tup (.cons (.con (.str "all")) (.cons (.var 1) .nil))) .nil)))))) (.cons (.asg 4 (.bin .add (.var 4) (.lst (.cons (.tup (.cons (.con (.str "both")) (.cons (.var 1) (.cons (.tup (.cons (.con (.str "any")) .nil)) .nil)))) (.cons (.tup (.cons (.con (.str "either")) (.cons (.tup (.cons (.con (.str "is")) (.cons (.tup .nil) .nil))) (.cons (.var 1) .nil)))) (.cons (.tup (.cons (.con (.str "row")) (.cons (.tup (.cons (.tup (.cons (.con (.str "one")) (.cons (.var 1) .nil))) .nil)) .nil))) .nil)))))) (.cons (.asg 4 (.bin .add (.var 4) (.lst (.cons (.tup (.cons (.con (.str "row")) (.cons (.tup (.cons (.tup (.cons (.con (.str "stretch")) (.cons (.var 1) .nil))) .nil)) .nil))) (.cons (.tup (.cons (.con (.str "lot")) (.cons (.tup (.cons (.tup (.cons (.con (.str "one")) (.cons (.var 1) .nil))) .nil)) .nil))) (.cons (.tup (.cons (.con (.str "lot")) (.cons (.tup (.cons (.tup (.cons (.con (.str "rest")) (.cons (.var 1) .nil))) .nil)) .nil))) .nil)))))) (.cons (.asg 1 (.ix (.bin .add (.var 4) (.lst (.cons (.tup (.cons (.con (.str "use")) (.cons (.con (.str "x")) (.cons (.tup (.cons (.tup (.cons (.con (.str "any")) .nil)) (.cons (.var 1) .nil))) .nil)))) .nil))) (.call "_law_draw" (.cons (.var 0) (.cons (.con (.int 11)) .nil))))) .nil))))) (.cons (.ret (.var 1)) .nil))
def f__law_wrapped : Fn := ⟨3, 5, b__law_wrapped⟩

def b__law_worths : Ss := (.cons (.asgs [0, 1] (.tup (.cons (.con (.int 1)) (.cons (.tup .nil) .nil)))) (.cons (.for' (.nm 2) (.rng1 (.con (.int 5))) (.cons (.asgs [0, 1] (.tup (.cons (.tup (.cons (.var 0) .nil)) (.cons (.tup (.cons (.var 1) .nil)) .nil)))) .nil)) (.cons (.asg 3 (.bin .mul (.tup (.cons (.con (.int 1)) .nil)) (.con (.int 10)))) (.cons (.asg 4 (.bin .add (.bin .mul (.tup (.cons (.var 3) .nil)) (.con (.int 5))) (.bin .mul (.tup (.cons (.con (.int 0)) .nil)) (.con (.int 4))))) (.cons (.asg 5 (.lst (.cons (.tup (.cons (.con (.int 0)) (.cons (.con (.bl true)) .nil))) (.cons (.tup (.cons (.con (.int 99)) (.cons (.con (.bl true)) .nil))) (.cons (.tup (.cons (.con (.int 100)) (.cons (.con (.bl false)) .nil))) (.cons (.tup (.cons (.neg (.con (.int 1))) (.cons (.con (.bl false)) .nil))) (.cons (.tup (.cons (.var 0) (.cons (.con (.bl true)) .nil))) (.cons (.tup (.cons (.tup (.cons (.var 0) .nil)) (.cons (.con (.bl false)) .nil))) (.cons (.tup (.cons (.var 1) (.cons (.con (.bl true)) .nil))) .nil))))))))) (.cons (.asg 5 (.bin .add (.var 5) (.lst (.cons (.tup (.cons (.tup (.cons (.var 1) .nil)) (.cons (.con (.bl false)) .nil))) (.cons (.tup (.cons (.var 3) (.cons (.con (.bl true)) .nil))) (.cons (.tup (.cons (.bin .add (.var 3) (.tup (.cons (.con (.int 1)) .nil))) (.cons (.con (.bl false)) .nil))) (.cons (.tup (.cons (.var 4) (.cons (.con (.bl true)) .nil))) (.cons (.tup (.cons (.bin .add (.var 4) (.tup (.cons (.con (.int 0)) .nil))) (.cons (.con (.bl false)) .nil))) .nil)))))))) (.cons (.ret (.bin .add (.var 5) (.lst (.cons (.tup (.cons (.con (.str "1")) (.cons (.con (.bl false)) .nil))) (.cons (.tup (.cons (.con .non) (.cons (.con (.bl false)) .nil))) (.cons (.tup (.cons (.lst (.cons (.con (.int 1)) .nil)) (.cons (.con (.bl false)) .nil))) (.cons (.tup (.cons (.tup (.cons (.lst .nil) .nil)) (.cons (.con (.bl false)) .nil))) (.cons (.tup (.cons (.con (.bl true)) (.cons (.con (.bl false)) .nil))) (.cons (.tup (.cons (.tup (.cons (.con (.int 0)) (.cons (.con (.bl false)) .nil))) (.cons (.con (.bl false)) .nil))) .nil))))))))) .nil)))))))
def f__law_worths : Fn := ⟨0, 6, b__law_worths⟩

def b__law_names : Ss := (.cons (.asg 0 (.lst (.cons (.tup (.cons (.con (.str "abcdef")) (.cons (.con (.bl true)) .nil))) (.cons (.tup (.cons (.con (.str "abcdefg")) (.cons (.con (.bl false)) .nil))) (.cons (.tup (.cons (.con (.str "")) (.cons (.con (.bl false)) .nil))) (.cons (.tup (.cons (.con (.str "aB")) (.cons (.con (.bl false)) .nil))) (.cons (.tup (.cons (.con (.str "a1")) (.cons (.con (.bl false)) .nil))) (.cons (.tup (.cons (.con (.str "a b")) (.cons (.con (.bl false)) .nil))) .nil)))))))) (.cons (.asg 0 (.bin .add (.var 0) (.lst (.cons (.tup (.cons (.con (.str "rows")) (.cons (.con (.bl true)) .nil))) (.cons (.tup (.cons (.con (.str "lots")) (.cons (.con (.bl true)) .nil))) (.cons (.tup (.cons (.con (.str "none")) (.cons (.con (.bl true)) .nil))) (.cons (.tup (.cons (.con (.str "leaf")) (.cons (.con (.bl true)) .nil))) (.cons (.tup (.cons (.con .non) (.cons (.con (.bl false)) .nil))) (.cons (.tup (.cons (.tup (.cons (.con (.str "x")) .nil)) (.cons (.con (.bl false)) .nil))) .nil))))))))) (.cons (.asg 1 (.con (.str "any is name both either not first row lot turned all use hole one stretch rest rule end"))) (.cons (.ret (.bin .add (.bin .add (.var 0) (.lst (.cons (.tup (.cons (.con (.int 5)) (.cons (.con (.bl false)) .nil))) (.cons (.tup (.cons (.lst (.cons (.con (.str "x")) .nil)) (.cons (.con (.bl false)) .nil))) .nil)))) (.comp [2] (.nm 2) (.seq (.mth .split (.var 1) (.cons (.con (.str " ")) .nil))) (.con (.bl true)) (.tup (.cons (.var 2) (.cons (.con (.bl false)) .nil)))))) .nil))))
def f__law_names : Fn := ⟨0, 3, b__law_names⟩

def b__law_bounds : Ss := (.cons (.asgs [1, 2] (.tup (.cons (.tup (.cons (.con (.str "any")) .nil)) (.cons (.call "_law_draw" (.cons (.var 0) (.cons (.con (.int 3)) .nil))) .nil)))) (.cons (.asgs [3, 4] (.tup (.cons (.bin .mul (.tup (.cons (.tup (.cons (.con (.str "one")) (.cons (.var 1) .nil))) .nil)) (.con (.int 6))) (.cons (.bin .mul (.tup (.cons (.tup (.cons (.con (.str "one")) (.cons (.var 1) .nil))) .nil)) (.con (.int 4))) .nil)))) (.cons (.asg 5 (.tup (.cons (.con (.str "not")) (.cons (.tup (.cons (.con (.str "all")) (.cons (.tup (.cons (.con (.str "first")) (.cons (.tup (.cons (.con (.str "row")) (.cons (.bin .add (.bin .mul (.tup (.cons (.tup (.cons (.con (.str "one")) (.cons (.tup (.cons (.con (.str "row")) (.cons (.var 3) .nil))) .nil))) .nil)) (.con (.int 5))) (.tup (.cons (.tup (.cons (.con (.str "stretch")) (.cons (.var 1) .nil))) .nil))) .nil))) .nil))) .nil))) .nil)))) (.cons (.own 6 (.lst (.cons (.tup (.cons (.call "_law_wrapped" (.cons (.var 0) (.cons (.var 1) (.cons (.con (.int 9)) .nil)))) (.cons (.con (.bl true)) .nil))) (.cons (.tup (.cons (.call "_law_wrapped" (.cons (.var 0) (.cons (.var 1) (.cons (.con (.int 10)) .nil)))) (.cons (.con (.bl false)) .nil))) (.cons (.tup (.cons (.var 5) (.cons (.con (.bl true)) .nil))) .nil))))) (.cons (.own 6 (.bin .add (.var 6) (.lst (.cons (.tup (.cons (.tup (.cons (.con (.str "turned")) (.cons (.var 5) .nil))) (.cons (.con (.bl false)) .nil))) (.cons (.tup (.cons (.tup (.cons (.con (.str "row")) (.cons (.bin .add (.var 3) (.tup (.cons (.tup (.cons (.con (.str "stretch")) (.cons (.var 1) .nil))) .nil))) .nil))) (.cons (.con (.bl false)) .nil))) (.cons (.tup (.cons (.tup (.cons (.con (.str "lot")) (.cons (.var 4) .nil))) (.cons (.con (.bl true)) .nil))) .nil)))))) (.cons (.own 6 (.bin .add (.var 6) (.lst (.cons (.tup (.cons (.tup (.cons (.con (.str "lot")) (.cons (.bin .add (.var 4) (.tup (.cons (.tup (.cons (.con (.str "rest")) (.cons (.var 1) .nil))) .nil))) .nil))) (.cons (.con (.bl false)) .nil))) (.cons (.tup (.cons (.tup (.cons (.con (.str "lot")) (.cons (.bin .add (.sl (.var 4) .no (.part (.con (.int 3)))) (.tup (.cons (.tup (.cons (.con (.str "rest")) (.cons (.var 1) .nil))) .nil))) .nil))) (.cons (.con (.bl true)) .nil))) .nil))))) (.cons (.own 6 (.bin .add (.var 6) (.lst (.cons (.tup (.cons (.tup (.cons (.con (.str "lot")) (.cons (.bin .add (.tup (.cons (.tup (.cons (.con (.str "rest")) (.cons (.var 1) .nil))) .nil)) (.sl (.var 4) .no (.part (.con (.int 1))))) .nil))) (.cons (.con (.bl false)) .nil))) (.cons (.tup (.cons (.tup (.cons (.con (.str "row")) (.cons (.tup (.cons (.tup (.cons (.con (.str "rest")) (.cons (.var 1) .nil))) .nil)) .nil))) (.cons (.con (.bl false)) .nil))) .nil))))) (.cons (.own 6 (.bin .add (.var 6) (.lst (.cons (.tup (.cons (.tup (.cons (.con (.str "lot")) (.cons (.tup (.cons (.tup (.cons (.con (.str "stretch")) (.cons (.var 1) .nil))) .nil)) .nil))) (.cons (.con (.bl false)) .nil))) (.cons (.tup (.cons (.tup (.cons (.con (.str "use")) (.cons (.con (.str "x")) (.cons (.tup (.cons (.var 1) (.cons (.var 1) .nil))) .nil)))) (.cons (.con (.bl true)) .nil))) (.cons (.tup (.cons (.tup (.cons (.con (.str "row")) (.cons (.tup .nil) .nil))) (.cons (.con (.bl true)) .nil))) .nil)))))) (.cons (.own 6 (.bin .add (.var 6) (.lst (.cons (.tup (.cons (.tup (.cons (.con (.str "use")) (.cons (.con (.str "x")) (.cons (.bin .mul (.tup (.cons (.var 1) .nil)) (.con (.int 3))) .nil)))) (.cons (.con (.bl false)) .nil))) (.cons (.tup (.cons (.tup (.cons (.con (.str "use")) (.cons (.con (.str "x")) (.cons (.tup .nil) .nil)))) (.cons (.con (.bl true)) .nil))) (.cons (.tup (.cons (.tup (.cons (.con (.str "lot")) (.cons (.tup .nil) .nil))) (.cons (.con (.bl true)) .nil))) .nil)))))) (.cons (.own 6 (.bin .add (.var 6) (.lst (.cons (.tup (.cons (.tup (.cons (.con (.str "row")) (.cons (.var 3) .nil))) (.cons (.con (.bl true)) .nil))) (.cons (.tup (.cons (.tup .nil) (.cons (.con (.bl false)) .nil))) .nil))))) (.cons (.for' (.tp [7, 8]) (.seq (.call "_law_worths" .nil)) (.cons (.asg 9 (.tup (.cons (.con (.str "row")) (.cons (.bin .add (.bin .mul (.tup (.cons (.tup (.cons (.con (.str "one")) (.cons (.tup (.cons (.con (.str "row")) (.cons (.var 3) .nil))) .nil))) .nil)) (.con (.int 5))) (.tup (.cons (.tup (.cons (.con (.str "stretch")) (.cons (.tup (.cons (.con (.str "is")) (.cons (.var 7) .nil))) .nil))) .nil))) .nil)))) (.cons (.asg 10 (.lst (.cons (.tup (.cons (.con (.str "is")) (.cons (.var 7) .nil))) (.cons (.call "_law_wrapped" (.cons (.var 0) (.cons (.tup (.cons (.con (.str "is")) (.cons (.var 7) .nil))) (.cons (.con (.int 9)) .nil)))) (.cons (.tup (.cons (.con (.str "not")) (.cons (.tup (.cons (.con (.str "all")) (.cons (.tup (.cons (.con (.str "first")) (.cons (.var 9) .nil))) .nil))) .nil))) .nil))))) (.cons (.own 6 (.bin .add (.var 6) (.comp [12] (.nm 12) (.seq (.var 10)) (.con (.bl true)) (.tup (.cons (.var 12) (.cons (.var 8) .nil)))))) .nil)))) (.cons (.for' (.tp [11, 8]) (.seq (.call "_law_names" .nil)) (.cons (.app 6 (.tup (.cons (.ix (.lst (.cons (.tup (.cons (.con (.str "name")) (.cons (.var 11) .nil))) (.cons (.tup (.cons (.con (.str "hole")) (.cons (.var 11) .nil))) (.cons (.tup (.cons (.con (.str "use")) (.cons (.var 11) (.cons (.tup .nil) .nil)))) .nil)))) (.var 2)) (.cons (.var 8) .nil)))) .nil)) (.cons (.retV 6) .nil)))))))))))))
def f__law_bounds : Fn := ⟨1, 13, b__law_bounds⟩

def b_law : Ss := (.cons (.asg 1 (.call "_law_begun" (.cons (.var 0) .nil))) (.cons (.ifs (.cmp .ne (.comp [7, 9] (.tp [7, 9]) (.seq (.call "_law_bounds" (.cons (.var 1) .nil))) (.cmp .ne (.blt .repr (.cons (.call "is_pattern" (.cons (.var 7) .nil)) .nil)) (.blt .repr (.cons (.var 9) .nil))) (.var 7)) (.lst .nil)) (.cons (.ret (.con (.bl false))) .nil) .nil) (.cons (.asg 2 (.tup (.cons (.con (.str "any")) .nil))) (.cons (.for' (.nm 3) (.rng1 (.con (.int 3000))) (.cons (.asg 2 (.tup (.cons (.con (.str "not")) (.cons (.var 2) .nil)))) .nil)) (.cons (.ifs (.or2 (.cmp .isnot (.call "is_pattern" (.cons (.var 2) .nil)) (.con (.bl false))) (.cmp .isnot (.call "is_pattern" (.cons (.tup (.cons (.con (.str "row")) (.cons (.tup (.cons (.tup (.cons (.con (.str "one")) (.cons (.var 2) .nil))) .nil)) .nil))) .nil)) (.con (.bl false)))) (.cons (.ret (.con (.bl false))) .nil) .nil) (.cons (.for' (.nm 3) (.rng1 (.bin .add (.con (.int 6)) (.blt .min2 (.cons (.con (.int 10)) (.cons (.bin .fdiv (.blt .len (.cons (.var 0) .nil)) (.con (.int 2))) .nil))))) (.cons (.asg 4 (.call "_law_words" (.cons (.var 1) (.cons (.con (.int 5)) .nil)))) (.cons (.asg 5 (.call "_law_pattern" (.cons (.var 1) (.cons (.var 4) (.cons (.call "_law_known" (.cons (.var 4) .nil)) (.cons (.bin .add (.con (.int 2)) (.call "_law_draw" (.cons (.var 1) (.cons (.con (.int 5)) .nil)))) (.cons (.promo (.lst (.cons (.bin .add (.con (.int 8)) (.call "_law_draw" (.cons (.var 1) (.cons (.con (.int 20)) .nil)))) .nil))) .nil))))))) (.cons (.asg 6 (.call "_law_spoilt" (.cons (.var 1) (.cons (.var 5) .nil)))) (.cons (.for' (.nm 7) (.seq (.tup (.cons (.var 5) (.cons (.call "_law_truths" (.cons (.var 5) .nil)) (.cons (.var 6) (.cons (.call "_law_spoilt" (.cons (.var 1) (.cons (.var 6) .nil))) (.cons (.var 5) .nil))))))) (.cons (.asg 8 (.blt .repr (.cons (.var 7) .nil))) (.cons (.ifs (.or2 (.cmp .ne (.blt .repr (.cons (.call "is_pattern" (.cons (.var 7) .nil)) .nil)) (.blt .repr (.cons (.cmp .lt (.call "_law_parts" (.cons (.var 7) (.cons (.con (.int 10)) .nil))) (.con (.int 41))) .nil))) (.cmp .ne (.blt .repr (.cons (.var 7) .nil)) (.var 8))) (.cons (.ret (.con (.bl false))) .nil) .nil) .nil))) .nil))))) (.cons (.ret (.con (.bl true))) .nil)))))))
def f_law : Fn := ⟨1, 10, b_law⟩

def tab : List (Str × Fn) := [(("is_whole" : Str), f_is_whole), (("is_among" : Str), f_is_among), (("is_name" : Str), f_is_name), (("is_leaf" : Str), f_is_leaf), (("size_within" : Str), f_size_within), (("is_worth" : Str), f_is_worth), (("are_items" : Str), f_are_items), (("has_form" : Str), f_has_form), (("within" : Str), f_within), (("parts_within" : Str), f_parts_within), (("is_pattern" : Str), f_is_pattern), (("_law_mixed" : Str), f__law_mixed), (("_law_folded" : Str), f__law_folded), (("_law_draw" : Str), f__law_draw), (("_law_begun" : Str), f__law_begun), (("_law_words" : Str), f__law_words), (("_law_leaf" : Str), f__law_leaf), (("_law_row" : Str), f__law_row), (("_law_item_parts" : Str), f__law_item_parts), (("_law_pattern" : Str), f__law_pattern), (("_law_is_name" : Str), f__law_is_name), (("_law_size" : Str), f__law_size), (("_law_inner" : Str), f__law_inner), (("_law_parts" : Str), f__law_parts), (("_law_spots" : Str), f__law_spots), (("_law_at" : Str), f__law_at), (("_law_put" : Str), f__law_put), (("_law_odd" : Str), f__law_odd), (("_law_spoilt" : Str), f__law_spoilt), (("_law_truths" : Str), f__law_truths), (("_law_known" : Str), f__law_known), (("_law_wrapped" : Str), f__law_wrapped), (("_law_worths" : Str), f__law_worths), (("_law_names" : Str), f__law_names), (("_law_bounds" : Str), f__law_bounds), (("law" : Str), f_law)]
def T : Tab := fun x => tab.lookup x
theorem T_is_whole : T "is_whole" = some f_is_whole := by rfl
theorem T_is_among : T "is_among" = some f_is_among := by rfl
theorem T_is_name : T "is_name" = some f_is_name := by rfl
theorem T_is_leaf : T "is_leaf" = some f_is_leaf := by rfl
theorem T_size_within : T "size_within" = some f_size_within := by rfl
theorem T_is_worth : T "is_worth" = some f_is_worth := by rfl
theorem T_are_items : T "are_items" = some f_are_items := by rfl
theorem T_has_form : T "has_form" = some f_has_form := by rfl
theorem T_within : T "within" = some f_within := by rfl
theorem T_parts_within : T "parts_within" = some f_parts_within := by rfl
theorem T_is_pattern : T "is_pattern" = some f_is_pattern := by rfl
theorem T__law_mixed : T "_law_mixed" = some f__law_mixed := by rfl
theorem T__law_folded : T "_law_folded" = some f__law_folded := by rfl
theorem T__law_draw : T "_law_draw" = some f__law_draw := by rfl
theorem T__law_begun : T "_law_begun" = some f__law_begun := by rfl
theorem T__law_words : T "_law_words" = some f__law_words := by rfl
theorem T__law_leaf : T "_law_leaf" = some f__law_leaf := by rfl
theorem T__law_row : T "_law_row" = some f__law_row := by rfl
theorem T__law_item_parts : T "_law_item_parts" = some f__law_item_parts := by rfl
theorem T__law_pattern : T "_law_pattern" = some f__law_pattern := by rfl
theorem T__law_is_name : T "_law_is_name" = some f__law_is_name := by rfl
theorem T__law_size : T "_law_size" = some f__law_size := by rfl
theorem T__law_inner : T "_law_inner" = some f__law_inner := by rfl
theorem T__law_parts : T "_law_parts" = some f__law_parts := by rfl
theorem T__law_spots : T "_law_spots" = some f__law_spots := by rfl
theorem T__law_at : T "_law_at" = some f__law_at := by rfl
theorem T__law_put : T "_law_put" = some f__law_put := by rfl
theorem T__law_odd : T "_law_odd" = some f__law_odd := by rfl
theorem T__law_spoilt : T "_law_spoilt" = some f__law_spoilt := by rfl
theorem T__law_truths : T "_law_truths" = some f__law_truths := by rfl
theorem T__law_known : T "_law_known" = some f__law_known := by rfl
theorem T__law_wrapped : T "_law_wrapped" = some f__law_wrapped := by rfl
theorem T__law_worths : T "_law_worths" = some f__law_worths := by rfl
theorem T__law_names : T "_law_names" = some f__law_names := by rfl
theorem T__law_bounds : T "_law_bounds" = some f__law_bounds := by rfl
theorem T_law : T "law" = some f_law := by rfl
def glob : List (Str × D) := [(("LETTERS" : Str), .str "abcdefghijklmnopqrstuvwxyz"), (("MOST_LETTERS" : Str), .int 6), (("MOST_LEAF" : Str), .int 99), (("BARRED" : Str), .tup [.str "any", .str "is", .str "name", .str "both", .str "either", .str "not", .str "first", .str "row", .str "lot", .str "turned", .str "all", .str "use", .str "hole", .str "one", .str "stretch", .str "rest", .str "rule", .str "end"]), (("MOST_THINGS" : Str), .int 10), (("MOST_SIZE" : Str), .int 60), (("MOST_DEEP_worths" : Str), .int 6), (("MOST_PARTS" : Str), .int 40), (("MOST_DEEP_patterns" : Str), .int 10), (("MOST_ARGS" : Str), .int 2), (("PAIRS" : Str), .tup [.str "both", .str "either"]), (("LONE" : Str), .tup [.str "not", .str "first", .str "turned", .str "all"])]
def G : Str → Option D := fun x => glob.lookup x
theorem G_LETTERS : G "LETTERS" = some (.str "abcdefghijklmnopqrstuvwxyz") := by rfl
theorem G_MOST_LETTERS : G "MOST_LETTERS" = some (.int 6) := by rfl
theorem G_MOST_LEAF : G "MOST_LEAF" = some (.int 99) := by rfl
theorem G_BARRED : G "BARRED" = some (.tup [.str "any", .str "is", .str "name", .str "both", .str "either", .str "not", .str "first", .str "row", .str "lot", .str "turned", .str "all", .str "use", .str "hole", .str "one", .str "stretch", .str "rest", .str "rule", .str "end"]) := by rfl
theorem G_MOST_THINGS : G "MOST_THINGS" = some (.int 10) := by rfl
theorem G_MOST_SIZE : G "MOST_SIZE" = some (.int 60) := by rfl
theorem G_MOST_DEEP_worths : G "MOST_DEEP_worths" = some (.int 6) := by rfl
theorem G_MOST_PARTS : G "MOST_PARTS" = some (.int 40) := by rfl
theorem G_MOST_DEEP_patterns : G "MOST_DEEP_patterns" = some (.int 10) := by rfl
theorem G_MOST_ARGS : G "MOST_ARGS" = some (.int 2) := by rfl
theorem G_PAIRS : G "PAIRS" = some (.tup [.str "both", .str "either"]) := by rfl
theorem G_LONE : G "LONE" = some (.tup [.str "not", .str "first", .str "turned", .str "all"]) := by rfl
def bs : List Str := [("isinstance" : Str), ("int" : Str), ("bool" : Str), ("str" : Str), ("len" : Str), ("all" : Str), ("tuple" : Str), ("enumerate" : Str), ("list" : Str), ("range" : Str), ("sum" : Str), ("repr" : Str), ("min" : Str)]
def cls : List Str := []
def lams : List Str := []
variable [Tb]
theorem sc_is_whole : FnScope ["thing"] ["thing"] (defScope (topS 5)) := ⟨rfl, rfl, rfl, by decide +kernel, rfl, by decide +kernel, by decide +kernel⟩
theorem tie_is_whole {w : World} {K : PySem.W.Frag} {mg : Str → Option Value} {base : Heap} {fa : Addr} {fd : FuncData} (gd_MOST_ITEMS : GDct K w mg "MOST_ITEMS" [(("row" : Str), .int 6), (("lot" : Str), .int 4)]) (hg : glA K "is_whole" = some fa) (hm : mg "is_whole" = some (.ref fa)) (F : Fun K "is_whole" "is_whole" (topS 5) fa fd) : Tied prog w K mg base T G bs "is_whole" f_is_whole := by
  refine ⟨fa, fd, ["thing"], ["thing"], topS 5, "is_whole", hm, hg, F, F.binds (fun _ _ _ _ _ _ us hl => match us, hl with | [_], _ => rfl), sc_is_whole, rfl, rfl, fun k C cdv hcv A outer s H E hs ce => ?_⟩
  have S := sc_is_whole
  exact blk_cons (st_ret (sim_and (sim_isi .int (sim_var 0) hs.no hs.no) (sim_last (sim_not (sim_isi .bool (sim_var 0) hs.no hs.no))))) (blk_nil)

theorem sc_is_among : FnScope ["thing", "least", "most"] ["thing", "least", "most"] (defScope (topS 6)) := ⟨rfl, rfl, rfl, by decide +kernel, rfl, by decide +kernel, by decide +kernel⟩
theorem tie_is_among {w : World} {K : PySem.W.Frag} {mg : Str → Option Value} {base : Heap} {fa : Addr} {fd : FuncData} (gd_MOST_ITEMS : GDct K w mg "MOST_ITEMS" [(("row" : Str), .int 6), (("lot" : Str), .int 4)]) (hg : glA K "is_among" = some fa) (hm : mg "is_among" = some (.ref fa)) (F : Fun K "is_among" "is_among" (topS 6) fa fd) : Tied prog w K mg base T G bs "is_among" f_is_among := by
  refine ⟨fa, fd, ["thing", "least", "most"], ["thing", "least", "most"], topS 6, "is_among", hm, hg, F, F.binds (fun _ _ _ _ _ _ us hl => match us, hl with | [_, _, _], _ => rfl), sc_is_among, rfl, rfl, fun k C cdv hcv A outer s H E hs ce => ?_⟩
  have S := sc_is_among
  exact blk_cons (st_ret (sim_and (sim_call (hs.call _ _ T_is_whole) hs.room hs.gd hs.tk (args_cons (sim_var 0) (args_nil))) (sim_last (sim_chain cr_le cr_le (sim_var 1) (sim_var 0) (sim_var 2))))) (blk_nil)

theorem sc_is_name : FnScope ["thing", "sign"] ["thing"] (defScope (topS 7)) := ⟨rfl, rfl, rfl, by decide +kernel, rfl, by decide +kernel, by decide +kernel⟩
theorem tie_is_name {w : World} {K : PySem.W.Frag} {mg : Str → Option Value} {base : Heap} {fa : Addr} {fd : FuncData} (gd_MOST_ITEMS : GDct K w mg "MOST_ITEMS" [(("row" : Str), .int 6), (("lot" : Str), .int 4)]) (hg : glA K "is_name" = some fa) (hm : mg "is_name" = some (.ref fa)) (F : Fun K "is_name" "is_name" (topS 7) fa fd) : Tied prog w K mg base T G bs "is_name" f_is_name := by
  refine ⟨fa, fd, ["thing"], ["thing", "sign"], topS 7, "is_name", hm, hg, F, F.binds (fun _ _ _ _ _ _ us hl => match us, hl with | [_], _ => rfl), sc_is_name, rfl, rfl, fun k C cdv hcv A outer s H E hs ce => ?_⟩
  have S := sc_is_name
  exact blk_cons (st_if ((tst_or (tst_not (tst_val (sim_isi .str (sim_var 0) hs.no hs.no))) (tst_or (tst_not (tst_chain cr_le cr_le (sim_int) (sim_blt br_len (args_cons (sim_var 0) (args_nil)) hs.no (by decide +kernel)) (sim_glo hs.glob))) (tst_last (tst_cmp (cr_in hs.hu65) (sim_var 0) (sim_glo hs.glob))))).pt) (blk_cons (st_ret (sim_bl)) (blk_nil)) (blk_nil)) (blk_cons (st_ret (sim_blt (br_all rfl) (args_cons (sim_comp [("sign", 1)] rfl S.nd (it_seq (sim_var 0)) (by first | (show blkC ["thing", "sign"] (defScope (topS 7)) _ _ = true; decide +kernel) | rfl) (by decide +kernel) (fun _ _ _ _ _ => tg_name 1 S.nd) (fun _ _ _ _ _ => tsts_no) (fun _ _ _ _ _ => sim_cmp (cr_in (hs.blk _ _ _ _ _).hu65) (sim_var 1) (sim_glo (hs.blk _ _ _ _ _).glob))) (args_nil)) hs.no (by decide +kernel))) (blk_nil))

theorem sc_is_leaf : FnScope ["thing"] ["thing"] (defScope (topS 12)) := ⟨rfl, rfl, rfl, by decide +kernel, rfl, by decide +kernel, by decide +kernel⟩
theorem tie_is_leaf {w : World} {K : PySem.W.Frag} {mg : Str → Option Value} {base : Heap} {fa : Addr} {fd : FuncData} (gd_MOST_ITEMS : GDct K w mg "MOST_ITEMS" [(("row" : Str), .int 6), (("lot" : Str), .int 4)]) (hg : glA K "is_leaf" = some fa) (hm : mg "is_leaf" = some (.ref fa)) (F : Fun K "is_leaf" "is_leaf" (topS 12) fa fd) : Tied prog w K mg base T G bs "is_leaf" f_is_leaf := by
  refine ⟨fa, fd, ["thing"], ["thing"], topS 12, "is_leaf", hm, hg, F, F.binds (fun _ _ _ _ _ _ us hl => match us, hl with | [_], _ => rfl), sc_is_leaf, rfl, rfl, fun k C cdv hcv A outer s H E hs ce => ?_⟩
  have S := sc_is_leaf
  exact blk_cons (st_ret (sim_call (hs.call _ _ T_is_among) hs.room hs.gd hs.tk (args_cons (sim_var 0) (args_cons (sim_int) (args_cons (sim_glo hs.glob) (args_nil)))))) (blk_nil)

theorem sc_size_within : FnScope ["thing", "deep", "found", "one", "many"] ["thing", "deep"] (defScope (topS 13)) := ⟨rfl, rfl, rfl, by decide +kernel, rfl, by decide +kernel, by decide +kernel⟩
theorem tie_size_within {w : World} {K : PySem.W.Frag} {mg : Str → Option Value} {base : Heap} {fa : Addr} {fd : FuncData} (gd_MOST_ITEMS : GDct K w mg "MOST_ITEMS" [(("row" : Str), .int 6), (("lot" : Str), .int 4)]) (hg : glA K "size_within" = some fa) (hm : mg "size_within" = some (.ref fa)) (F : Fun K "size_within" "size_within" (topS 13) fa fd) : Tied prog w K mg base T G bs "size_within" f_size_within := by
  refine ⟨fa, fd, ["thing", "deep"], ["thing", "deep", "found", "one", "many"], topS 13, "size_within", hm, hg, F, F.binds (fun _ _ _ _ _ _ us hl => match us, hl with | [_, _], _ => rfl), sc_size_within, rfl, rfl, fun k C cdv hcv A outer s H E hs ce => ?_⟩
  have S := sc_size_within
  exact blk_cons (st_if (tst_val (sim_call (hs.call _ _ T_is_leaf) hs.room hs.gd hs.tk (args_cons (sim_var 0) (args_nil)))) (blk_cons (st_ret (sim_ite (tst_cmp (cr_gt hs.hu64) (sim_var 1) (sim_int)) (sim_int) (sim_int))) (blk_nil)) (blk_nil)) (blk_cons (st_if ((tst_or (tst_cmp (cr_eq hs.hu64) (sim_var 1) (sim_int)) (tst_or (tst_not (tst_val (sim_isi .tuple (sim_var 0) hs.no hs.no))) (tst_last (tst_cmp (cr_gt hs.hu64) (sim_blt br_len (args_cons (sim_var 0) (args_nil)) hs.no (by decide +kernel)) (sim_glo hs.glob))))).pt) (blk_cons (st_ret (sim_int)) (blk_nil)) (blk_nil)) (blk_cons (st_asg 2 S.nd (sim_int)) (blk_cons (st_for (passes_of rfl) rfl (it_seq (sim_var 0)) (tg_name 3 S.nd) (blk_cons (st_asg 4 S.nd (sim_call (hs.call _ _ T_size_within) hs.room hs.gd hs.tk (args_cons (sim_var 3) (args_cons (sim_sub (sim_var 1) (sim_int)) (args_nil))))) (blk_cons (st_asg 2 S.nd (sim_add (sim_var 2) (sim_var 4))) (blk_cons (st_if ((tst_or (tst_cmp (cr_eq hs.hu64) (sim_var 4) (sim_int)) (tst_last (tst_cmp (cr_gt hs.hu64) (sim_var 2) (sim_glo hs.glob)))).pt) (blk_cons (st_ret (sim_int)) (blk_nil)) (blk_nil)) (blk_nil))))) (blk_cons (st_ret (sim_var 2)) (blk_nil)))))

theorem sc_is_worth : FnScope ["thing"] ["thing"] (defScope (topS 14)) := ⟨rfl, rfl, rfl, by decide +kernel, rfl, by decide +kernel, by decide +kernel⟩
theorem tie_is_worth {w : World} {K : PySem.W.Frag} {mg : Str → Option Value} {base : Heap} {fa : Addr} {fd : FuncData} (gd_MOST_ITEMS : GDct K w mg "MOST_ITEMS" [(("row" : Str), .int 6), (("lot" : Str), .int 4)]) (hg : glA K "is_worth" = some fa) (hm : mg "is_worth" = some (.ref fa)) (F : Fun K "is_worth" "is_worth" (topS 14) fa fd) : Tied prog w K mg base T G bs "is_worth" f_is_worth := by
  refine ⟨fa, fd, ["thing"], ["thing"], topS 14, "is_worth", hm, hg, F, F.binds (fun _ _ _ _ _ _ us hl => match us, hl with | [_], _ => rfl), sc_is_worth, rfl, rfl, fun k C cdv hcv A outer s H E hs ce => ?_⟩
  have S := sc_is_worth
  exact blk_cons (st_ret (sim_cmp (cr_gt hs.hu64) (sim_call (hs.call _ _ T_size_within) hs.room hs.gd hs.tk (args_cons (sim_var 0) (args_cons (sim_glo hs.glob) (args_nil)))) (sim_int))) (blk_nil)

theorem sc_are_items : FnScope ["word", "thing", "place", "item"] ["word", "thing"] (defScope (topS 22)) := ⟨rfl, rfl, rfl, by decide +kernel, rfl, by decide +kernel, by decide +kernel⟩
theorem tie_are_items {w : World} {K : PySem.W.Frag} {mg : Str → Option Value} {base : Heap} {fa : Addr} {fd : FuncData} (gd_MOST_ITEMS : GDct K w mg "MOST_ITEMS" [(("row" : Str), .int 6), (("lot" : Str), .int 4)]) (hg : glA K "are_items" = some fa) (hm : mg "are_items" = some (.ref fa)) (F : Fun K "are_items" "are_items" (topS 22) fa fd) : Tied prog w K mg base T G bs "are_items" f_are_items := by
  refine ⟨fa, fd, ["word", "thing"], ["word", "thing", "place", "item"], topS 22, "are_items", hm, hg, F, F.binds (fun _ _ _ _ _ _ us hl => match us, hl with | [_, _], _ => rfl), sc_are_items, rfl, rfl, fun k C cdv hcv A outer s H E hs ce => ?_⟩
  have S := sc_are_items
  exact blk_cons (st_if ((tst_or (tst_not (tst_val (sim_isi .tuple (sim_var 1) hs.no hs.no))) (tst_last (tst_cmp (cr_gt hs.hu64) (sim_blt br_len (args_cons (sim_var 1) (args_nil)) hs.no (by decide +kernel)) (sim_gget gd_MOST_ITEMS (sim_var 0))))).pt) (blk_cons (st_ret (sim_bl)) (blk_nil)) (blk_nil)) (blk_cons (st_for (passes_of rfl) rfl (it_enum hs.no (sim_var 1)) (tg_tup rfl (tgs_cons 2 S.nd (tgs_cons 3 S.nd (tgs_nil)))) (blk_cons (st_if ((tst_or (tst_not (tst_val (sim_isi .tuple (sim_var 3) hs.no hs.no))) (tst_or (tst_cmp (cr_ne hs.hu64) (sim_blt br_len (args_cons (sim_var 3) (args_nil)) hs.no (by decide +kernel)) (sim_int)) (tst_last (tst_not (tst_val (sim_isi .str (sim_ix (sim_var 3) (sim_int)) hs.no hs.no)))))).pt) (blk_cons (st_ret (sim_bl)) (blk_nil)) (blk_nil)) (blk_cons (st_if ((tst_and (tst_cmp (cr_ne hs.hu64) (sim_ix (sim_var 3) (sim_int)) (sim_str)) (tst_last (tst_not ((tst_and (tst_cmp (cr_eq hs.hu64) (sim_ix (sim_var 3) (sim_int)) (sim_str)) (tst_last (tst_cmp (cr_eq hs.hu64) (sim_var 0) (sim_str)))).pt)))).pt) (blk_cons (st_if ((tst_or (tst_cmp (cr_ne hs.hu64) (sim_ix (sim_var 3) (sim_int)) (sim_str)) (tst_or (tst_cmp (cr_ne hs.hu64) (sim_var 0) (sim_str)) (tst_last (tst_cmp (cr_lt hs.hu64) (sim_var 2) (sim_sub (sim_blt br_len (args_cons (sim_var 1) (args_nil)) hs.no (by decide +kernel)) (sim_int)))))).pt) (blk_cons (st_ret (sim_bl)) (blk_nil)) (blk_nil)) (blk_nil)) (blk_nil)) (blk_nil)))) (blk_cons (st_ret (sim_bl)) (blk_nil)))

theorem sc_has_form : FnScope ["thing", "word", "many"] ["thing"] (defScope (topS 23)) := ⟨rfl, rfl, rfl, by decide +kernel, rfl, by decide +kernel, by decide +kernel⟩
theorem tie_has_form {w : World} {K : PySem.W.Frag} {mg : Str → Option Value} {base : Heap} {fa : Addr} {fd : FuncData} (gd_MOST_ITEMS : GDct K w mg "MOST_ITEMS" [(("row" : Str), .int 6), (("lot" : Str), .int 4)]) (hg : glA K "has_form" = some fa) (hm : mg "has_form" = some (.ref fa)) (F : Fun K "has_form" "has_form" (topS 23) fa fd) : Tied prog w K mg base T G bs "has_form" f_has_form := by
  refine ⟨fa, fd, ["thing"], ["thing", "word", "many"], topS 23, "has_form", hm, hg, F, F.binds (fun _ _ _ _ _ _ us hl => match us, hl with | [_], _ => rfl), sc_has_form, rfl, rfl, fun k C cdv hcv A outer s H E hs ce => ?_⟩
  have S := sc_has_form
  exact blk_cons (st_if ((tst_or (tst_not (tst_val (sim_isi .tuple (sim_var 0) hs.no hs.no))) (tst_or (tst_cmp (cr_eq hs.hu64) (sim_var 0) (sim_tup (args_nil))) (tst_last (tst_not (tst_val (sim_isi .str (sim_ix (sim_var 0) (sim_int)) hs.no hs.no)))))).pt) (blk_cons (st_ret (sim_bl)) (blk_nil)) (blk_nil)) (blk_cons (st_par 1 2 rfl S.nd (args_cons (sim_ix (sim_var 0) (sim_int)) (args_cons (sim_blt br_len (args_cons (sim_var 0) (args_nil)) hs.no (by decide +kernel)) (args_nil))) (by rfl)) (blk_cons (st_if (tst_cmp (cr_eq hs.hu64) (sim_var 1) (sim_str)) (blk_cons (st_ret (sim_cmp (cr_eq hs.hu64) (sim_var 2) (sim_int))) (blk_nil)) (blk_nil)) (blk_cons (st_if (tst_cmp (cr_in hs.hu65) (sim_var 1) (sim_glo hs.glob)) (blk_cons (st_ret (sim_cmp (cr_eq hs.hu64) (sim_var 2) (sim_int))) (blk_nil)) (blk_nil)) (blk_cons (st_if (tst_cmp (cr_eq hs.hu64) (sim_var 1) (sim_str)) (blk_cons (st_ret (sim_and (sim_cmp (cr_eq hs.hu64) (sim_var 2) (sim_int)) (sim_and (sim_call (hs.call _ _ T_is_name) hs.room hs.gd hs.tk (args_cons (sim_ix (sim_var 0) (sim_int)) (args_nil))) (sim_and (sim_isi .tuple (sim_ix (sim_var 0) (sim_int)) hs.no hs.no) (sim_last (sim_cmp cr_le (sim_blt br_len (args_cons (sim_ix (sim_var 0) (sim_int)) (args_nil)) hs.no (by decide +kernel)) (sim_glo hs.glob))))))) (blk_nil)) (blk_nil)) (blk_cons (st_if (tst_cmp (cr_ne hs.hu64) (sim_var 2) (sim_int)) (blk_cons (st_ret (sim_bl)) (blk_nil)) (blk_nil)) (blk_cons (st_if (tst_cmp (cr_in hs.hu65) (sim_var 1) (sim_tup (args_cons (sim_str) (args_cons (sim_str) (args_nil))))) (blk_cons (st_ret (sim_call (hs.call _ _ T_is_name) hs.room hs.gd hs.tk (args_cons (sim_ix (sim_var 0) (sim_int)) (args_nil)))) (blk_nil)) (blk_nil)) (blk_cons (st_if (tst_gin gd_MOST_ITEMS (sim_var 1)) (blk_cons (st_ret (sim_call (hs.call _ _ T_are_items) hs.room hs.gd hs.tk (args_cons (sim_var 1) (args_cons (sim_ix (sim_var 0) (sim_int)) (args_nil))))) (blk_nil)) (blk_nil)) (blk_cons (st_ret (sim_or (sim_cmp (cr_in hs.hu65) (sim_var 1) (sim_glo hs.glob)) (sim_last (sim_and (sim_cmp (cr_eq hs.hu64) (sim_var 1) (sim_str)) (sim_last (sim_call (hs.call _ _ T_is_worth) hs.room hs.gd hs.tk (args_cons (sim_ix (sim_var 0) (sim_int)) (args_nil)))))))) (blk_nil)))))))))

theorem sc_within : FnScope ["pattern", "word", "item"] ["pattern"] (defScope (topS 24)) := ⟨rfl, rfl, rfl, by decide +kernel, rfl, by decide +kernel, by decide +kernel⟩
theorem tie_within {w : World} {K : PySem.W.Frag} {mg : Str → Option Value} {base : Heap} {fa : Addr} {fd : FuncData} (gd_MOST_ITEMS : GDct K w mg "MOST_ITEMS" [(("row" : Str), .int 6), (("lot" : Str), .int 4)]) (hg : glA K "within" = some fa) (hm : mg "within" = some (.ref fa)) (F : Fun K "within" "within" (topS 24) fa fd) : Tied prog w K mg base T G bs "within" f_within := by
  refine ⟨fa, fd, ["pattern"], ["pattern", "word", "item"], topS 24, "within", hm, hg, F, F.binds (fun _ _ _ _ _ _ us hl => match us, hl with | [_], _ => rfl), sc_within, rfl, rfl, fun k C cdv hcv A outer s H E hs ce => ?_⟩
  have S := sc_within
  exact blk_cons (st_asg 1 S.nd (sim_ix (sim_var 0) (sim_int))) (blk_cons (st_if ((tst_or (tst_cmp (cr_in hs.hu65) (sim_var 1) (sim_glo hs.glob)) (tst_last (tst_cmp (cr_in hs.hu65) (sim_var 1) (sim_glo hs.glob)))).pt) (blk_cons (st_ret (sim_bltT br_list (args_cons (sim_sl (sim_var 0) (part_some (sim_int)) part_no) (args_nil)) hs.no (by decide +kernel))) (blk_nil)) (blk_nil)) (blk_cons (st_if (tst_gin gd_MOST_ITEMS (sim_var 1)) (blk_cons (st_ret (sim_comp [("item", 2)] rfl S.nd (it_seq (sim_ix (sim_var 0) (sim_int))) (by first | (show blkC ["pattern", "word", "item"] (defScope (topS 24)) _ _ = true; decide +kernel) | rfl) (by decide +kernel) (fun _ _ _ _ _ => tg_name 2 S.nd) (fun _ _ _ _ _ => tsts_no) (fun _ _ _ _ _ => sim_ix (sim_var 2) (sim_int)))) (blk_nil)) (blk_nil)) (blk_cons (st_ret (sim_ite (tst_cmp (cr_eq hs.hu64) (sim_var 1) (sim_str)) (sim_bltT br_list (args_cons (sim_ix (sim_var 0) (sim_int)) (args_nil)) hs.no (by decide +kernel)) (sim_lst (args_nil)))) (blk_nil))))

theorem sc_parts_within : FnScope ["thing", "deep", "found", "one", "many"] ["thing", "deep"] (defScope (topS 25)) := ⟨rfl, rfl, rfl, by decide +kernel, rfl, by decide +kernel, by decide +kernel⟩
theorem tie_parts_within {w : World} {K : PySem.W.Frag} {mg : Str → Option Value} {base : Heap} {fa : Addr} {fd : FuncData} (gd_MOST_ITEMS : GDct K w mg "MOST_ITEMS" [(("row" : Str), .int 6), (("lot" : Str), .int 4)]) (hg : glA K "parts_within" = some fa) (hm : mg "parts_within" = some (.ref fa)) (F : Fun K "parts_within" "parts_within" (topS 25) fa fd) : Tied prog w K mg base T G bs "parts_within" f_parts_within := by
  refine ⟨fa, fd, ["thing", "deep"], ["thing", "deep", "found", "one", "many"], topS 25, "parts_within", hm, hg, F, F.binds (fun _ _ _ _ _ _ us hl => match us, hl with | [_, _], _ => rfl), sc_parts_within, rfl, rfl, fun k C cdv hcv A outer s H E hs ce => ?_⟩
  have S := sc_parts_within
  exact blk_cons (st_if ((tst_or (tst_cmp (cr_eq hs.hu64) (sim_var 1) (sim_int)) (tst_last (tst_not (tst_val (sim_call (hs.call _ _ T_has_form) hs.room hs.gd hs.tk (args_cons (sim_var 0) (args_nil))))))).pt) (blk_cons (st_ret (sim_int)) (blk_nil)) (blk_nil)) (blk_cons (st_asg 2 S.nd (sim_int)) (blk_cons (st_for (passes_of rfl) rfl (it_seq (sim_call (hs.call _ _ T_within) hs.room hs.gd hs.tk (args_cons (sim_var 0) (args_nil)))) (tg_name 3 S.nd) (blk_cons (st_asg 4 S.nd (sim_call (hs.call _ _ T_parts_within) hs.room hs.gd hs.tk (args_cons (sim_var 3) (args_cons (sim_sub (sim_var 1) (sim_int)) (args_nil))))) (blk_cons (st_asg 2 S.nd (sim_add (sim_var 2) (sim_var 4))) (blk_cons (st_if ((tst_or (tst_cmp (cr_eq hs.hu64) (sim_var 4) (sim_int)) (tst_last (tst_cmp (cr_gt hs.hu64) (sim_var 2) (sim_glo hs.glob)))).pt) (blk_cons (st_ret (sim_int)) (blk_nil)) (blk_nil)) (blk_nil))))) (blk_cons (st_ret (sim_var 2)) (blk_nil))))

theorem sc_is_pattern : FnScope ["thing"] ["thing"] (defScope (topS 26)) := ⟨rfl, rfl, rfl, by decide +kernel, rfl, by decide +kernel, by decide +kernel⟩
theorem tie_is_pattern {w : World} {K : PySem.W.Frag} {mg : Str → Option Value} {base : Heap} {fa : Addr} {fd : FuncData} (gd_MOST_ITEMS : GDct K w mg "MOST_ITEMS" [(("row" : Str), .int 6), (("lot" : Str), .int 4)]) (hg : glA K "is_pattern" = some fa) (hm : mg "is_pattern" = some (.ref fa)) (F : Fun K "is_pattern" "is_pattern" (topS 26) fa fd) : Tied prog w K mg base T G bs "is_pattern" f_is_pattern := by
  refine ⟨fa, fd, ["thing"], ["thing"], topS 26, "is_pattern", hm, hg, F, F.binds (fun _ _ _ _ _ _ us hl => match us, hl with | [_], _ => rfl), sc_is_pattern, rfl, rfl, fun k C cdv hcv A outer s H E hs ce => ?_⟩
  have S := sc_is_pattern
  exact blk_cons (st_ret (sim_cmp (cr_gt hs.hu64) (sim_call (hs.call _ _ T_parts_within) hs.room hs.gd hs.tk (args_cons (sim_var 0) (args_cons (sim_glo hs.glob) (args_nil)))) (sim_int))) (blk_nil)

theorem sc__law_mixed : FnScope ["_law_cell", "_law_k", "_law_number"] ["_law_cell", "_law_k"] (defScope (topS 28)) := ⟨rfl, rfl, rfl, by decide +kernel, rfl, by decide +kernel, by decide +kernel⟩
theorem tie__law_mixed {w : World} {K : PySem.W.Frag} {mg : Str → Option Value} {base : Heap} {fa : Addr} {fd : FuncData} (gd_MOST_ITEMS : GDct K w mg "MOST_ITEMS" [(("row" : Str), .int 6), (("lot" : Str), .int 4)]) (hg : glA K "_law_mixed" = some fa) (hm : mg "_law_mixed" = some (.ref fa)) (F : Fun K "_law_mixed" "_law_mixed" (topS 28) fa fd) : Tied prog w K mg base T G bs "_law_mixed" f__law_mixed := by
  refine ⟨fa, fd, ["_law_cell", "_law_k"], ["_law_cell", "_law_k", "_law_number"], topS 28, "_law_mixed", hm, hg, F, F.binds (fun _ _ _ _ _ _ us hl => match us, hl with | [_, _], _ => rfl), sc__law_mixed, rfl, rfl, fun k C cdv hcv A outer s H E hs ce => ?_⟩
  have S := sc__law_mixed
  exact blk_cons (st_asg 2 S.nd (sim_add (sim_add (sim_mod (sim_mul (sim_mul (sim_var 0) (sim_add (sim_int) (sim_mul (sim_int) (sim_var 1)))) (sim_int)) (sim_int)) (sim_mul (sim_mul (sim_int) (sim_var 1)) (sim_var 1))) (sim_mul (sim_int) (sim_var 1)))) (blk_cons (st_ret (sim_fdiv (sim_mod (sim_mul (sim_var 2) (sim_int)) (sim_int)) (sim_int))) (blk_nil))

theorem sc__law_folded : FnScope ["_law_script", "_law_found", "_law_k", "_law_cell"] ["_law_script"] (defScope (topS 29)) := ⟨rfl, rfl, rfl, by decide +kernel, rfl, by decide +kernel, by decide +kernel⟩
theorem tie__law_folded {w : World} {K : PySem.W.Frag} {mg : Str → Option Value} {base : Heap} {fa : Addr} {fd : FuncData} (gd_MOST_ITEMS : GDct K w mg "MOST_ITEMS" [(("row" : Str), .int 6), (("lot" : Str), .int 4)]) (hg : glA K "_law_folded" = some fa) (hm : mg "_law_folded" = some (.ref fa)) (F : Fun K "_law_folded" "_law_folded" (topS 29) fa fd) : Tied prog w K mg base T G bs "_law_folded" f__law_folded := by
  refine ⟨fa, fd, ["_law_script"], ["_law_script", "_law_found", "_law_k", "_law_cell"], topS 29, "_law_folded", hm, hg, F, F.binds (fun _ _ _ _ _ _ us hl => match us, hl with | [_], _ => rfl), sc__law_folded, rfl, rfl, fun k C cdv hcv A outer s H E hs ce => ?_⟩
  have S := sc__law_folded
  exact blk_cons (st_ownC 1 [("_law_k", 2)] rfl S.nd (it_rng1 hs.no (sim_int)) (by first | (show blkC ["_law_script", "_law_found", "_law_k", "_law_cell"] (defScope (topS 29)) _ _ = true; decide +kernel) | rfl) (by decide +kernel) (fun _ _ _ _ _ => tg_name 2 S.nd) (fun _ _ _ _ _ => tsts_no) (fun _ _ _ _ _ => sim_add (sim_int) (sim_var 2)) (sw_true rfl rfl rfl (by decide +kernel))) (blk_cons (st_for (passes_of rfl) rfl (it_enum hs.no (sim_var 0)) (tg_tup rfl (tgs_cons 2 S.nd (tgs_cons 3 S.nd (tgs_nil)))) (blk_cons (st_setOwn 1 (sim_mod (sim_add (sim_mul (sim_ix (sim_var 1) (sim_mod (sim_var 2) (sim_int))) (sim_int)) (sim_var 3)) (sim_int)) (sim_mod (sim_var 2) (sim_int)) (pv 1)) (blk_nil))) (blk_cons (st_for (passes_of rfl) rfl (it_rng2 hs.no (sim_int) (sim_int)) (tg_name 2 S.nd) (blk_cons (st_setOwn 1 (sim_mod (sim_add (sim_ix (sim_var 1) (sim_var 2)) (sim_mul (sim_ix (sim_var 1) (sim_sub (sim_var 2) (sim_int))) (sim_int))) (sim_int)) (sim_var 2) (pv 1)) (blk_nil))) (blk_cons (st_retV 1 (pv 1)) (blk_nil))))

theorem sc__law_draw : FnScope ["_law_m", "_law_many", "_law_k", "_law_at_here", "_law_cell"] ["_law_m", "_law_many"] (defScope (topS 30)) := ⟨rfl, rfl, rfl, by decide +kernel, rfl, by decide +kernel, by decide +kernel⟩
theorem tie__law_draw {w : World} {K : PySem.W.Frag} {mg : Str → Option Value} {base : Heap} {fa : Addr} {fd : FuncData} (gd_MOST_ITEMS : GDct K w mg "MOST_ITEMS" [(("row" : Str), .int 6), (("lot" : Str), .int 4)]) (hg : glA K "_law_draw" = some fa) (hm : mg "_law_draw" = some (.ref fa)) (F : Fun K "_law_draw" "_law_draw" (topS 30) fa fd) : Tied prog w K mg base T G bs "_law_draw" f__law_draw := by
  refine ⟨fa, fd, ["_law_m", "_law_many"], ["_law_m", "_law_many", "_law_k", "_law_at_here", "_law_cell"], topS 30, "_law_draw", hm, hg, F, F.binds (fun _ _ _ _ _ _ us hl => match us, hl with | [_, _], _ => rfl), sc__law_draw, rfl, rfl, fun k C cdv hcv A outer s H E hs ce => ?_⟩
  have S := sc__law_draw
  exact blk_cons (st_asg 2 S.nd (sim_dget hs.hu (sim_var 0) (sim_str))) (blk_cons (st_setD hs.hu (sim_add (sim_var 2) (sim_int)) (sim_var 0) (sim_str)) (blk_cons (st_if (tst_cmp (cr_ne hs.hu64) (sim_dget hs.hu (sim_var 0) (sim_str)) (sim_lst (args_nil))) (blk_cons (st_asg 3 S.nd (sim_mod (sim_var 2) (sim_blt br_len (args_cons (sim_dget hs.hu (sim_var 0) (sim_str)) (args_nil)) hs.no (by decide +kernel)))) (blk_cons (st_asg 4 S.nd (sim_ix (sim_dget hs.hu (sim_var 0) (sim_str)) (sim_var 3))) (blk_cons (st_if (tst_cmp (cr_gt hs.hu64) (sim_var 4) (sim_int)) (blk_cons (st_setL (sim_fdiv (sim_var 4) (sim_var 1)) (sim_dget hs.hu (sim_var 0) (sim_str)) (sim_var 3)) (blk_cons (st_ret (sim_mod (sim_var 4) (sim_var 1))) (blk_nil))) (blk_nil)) (blk_nil)))) (blk_nil)) (blk_cons (st_ret (sim_mod (sim_call (hs.call _ _ T__law_mixed) hs.room hs.gd hs.tk (args_cons (sim_call (hs.call _ _ T__law_mixed) hs.room hs.gd hs.tk (args_cons (sim_add (sim_ix (sim_dget hs.hu (sim_var 0) (sim_str)) (sim_mod (sim_var 2) (sim_int))) (sim_mul (sim_int) (sim_fdiv (sim_var 2) (sim_int)))) (args_cons (sim_var 2) (args_nil)))) (args_cons (sim_add (sim_var 2) (sim_int)) (args_nil)))) (sim_var 1))) (blk_nil))))

theorem sc__law_begun : FnScope ["_law_script", "_law_m", "_law_cell"] ["_law_script"] (defScope (topS 31)) := ⟨rfl, rfl, rfl, by decide +kernel, rfl, by decide +kernel, by decide +kernel⟩
theorem tie__law_begun {w : World} {K : PySem.W.Frag} {mg : Str → Option Value} {base : Heap} {fa : Addr} {fd : FuncData} (gd_MOST_ITEMS : GDct K w mg "MOST_ITEMS" [(("row" : Str), .int 6), (("lot" : Str), .int 4)]) (hg : glA K "_law_begun" = some fa) (hm : mg "_law_begun" = some (.ref fa)) (F : Fun K "_law_begun" "_law_begun" (topS 31) fa fd) : Tied prog w K mg base T G bs "_law_begun" f__law_begun := by
  refine ⟨fa, fd, ["_law_script"], ["_law_script", "_law_m", "_law_cell"], topS 31, "_law_begun", hm, hg, F, F.binds (fun _ _ _ _ _ _ us hl => match us, hl with | [_], _ => rfl), sc__law_begun, rfl, rfl, fun k C cdv hcv A outer s H E hs ce => ?_⟩
  have S := sc__law_begun
  exact blk_cons (st_asg 1 S.nd (sim_dct (pps_cons pe_str (sim_promo (sim_call (hs.call _ _ T__law_folded) hs.room hs.gd hs.tk (args_cons (sim_var 0) (args_nil)))) (pps_cons pe_str (sim_promo (sim_lst (args_nil))) (pps_cons pe_str (sim_int) (pps_nil)))))) (blk_cons (st_setD hs.hu (sim_promo (sim_comp [("_law_cell", 2)] rfl S.nd (it_seq (sim_var 0)) (by first | (show blkC ["_law_script", "_law_m", "_law_cell"] (defScope (topS 31)) _ _ = true; decide +kernel) | rfl) (by decide +kernel) (fun _ _ _ _ _ => tg_name 2 S.nd) (fun _ _ _ _ _ => tsts_no) (fun _ _ _ _ _ => sim_ite (tst_cmp cr_ge (sim_var 2) (sim_pow (sim_int) (sim_int))) (sim_var 2) (sim_int)))) (sim_var 1) (sim_str)) (blk_cons (st_ret (sim_var 1)) (blk_nil)))

theorem sc__law_words : FnScope ["_law_m", "_law_many", "_law_letters", "_law_start", "_law_way", "_law_size_here", "_law_at_here", "_law_stride", "_law_base", "_law_found", "_law_k", "_law_mark", "_law_bars", "_law_j", "_law_word"] ["_law_m", "_law_many"] (defScope (topS 32)) := ⟨rfl, rfl, rfl, by decide +kernel, rfl, by decide +kernel, by decide +kernel⟩
theorem tie__law_words {w : World} {K : PySem.W.Frag} {mg : Str → Option Value} {base : Heap} {fa : Addr} {fd : FuncData} (gd_MOST_ITEMS : GDct K w mg "MOST_ITEMS" [(("row" : Str), .int 6), (("lot" : Str), .int 4)]) (hg : glA K "_law_words" = some fa) (hm : mg "_law_words" = some (.ref fa)) (F : Fun K "_law_words" "_law_words" (topS 32) fa fd) : Tied prog w K mg base T G bs "_law_words" f__law_words := by
  refine ⟨fa, fd, ["_law_m", "_law_many"], ["_law_m", "_law_many", "_law_letters", "_law_start", "_law_way", "_law_size_here", "_law_at_here", "_law_stride", "_law_base", "_law_found", "_law_k", "_law_mark", "_law_bars", "_law_j", "_law_word"], topS 32, "_law_words", hm, hg, F, F.binds (fun _ _ _ _ _ _ us hl => match us, hl with | [_, _], _ => rfl), sc__law_words, rfl, rfl, fun k C cdv hcv A outer s H E hs ce => ?_⟩
  have S := sc__law_words
  exact blk_cons (st_asg 2 S.nd (sim_str)) (blk_cons (st_asgs rfl (sim_tup (args_cons (sim_call (hs.call _ _ T__law_draw) hs.room hs.gd hs.tk (args_cons (sim_var 0) (args_cons (sim_int) (args_nil)))) (args_cons (sim_call (hs.call _ _ T__law_draw) hs.room hs.gd hs.tk (args_cons (sim_var 0) (args_cons (sim_int) (args_nil)))) (args_nil)))) (tgs_cons 3 S.nd (tgs_cons 4 S.nd (tgs_nil)))) (blk_cons (st_asg 5 S.nd (sim_add (sim_int) (sim_call (hs.call _ _ T__law_draw) hs.room hs.gd hs.tk (args_cons (sim_var 0) (args_cons (sim_int) (args_nil)))))) (blk_cons (st_asg 6 S.nd (sim_call (hs.call _ _ T__law_draw) hs.room hs.gd hs.tk (args_cons (sim_var 0) (args_cons (sim_var 5) (args_nil))))) (blk_cons (st_asg 7 S.nd (sim_ix (sim_lst (args_cons (sim_int) (args_cons (sim_int) (args_cons (sim_int) (args_cons (sim_int) (args_cons (sim_int) (args_cons (sim_int) (args_nil)))))))) (sim_call (hs.call _ _ T__law_draw) hs.room hs.gd hs.tk (args_cons (sim_var 0) (args_cons (sim_int) (args_nil)))))) (blk_cons (st_asg 8 S.nd (sim_join (sim_str) (sim_comp [("_law_j", 13)] rfl S.nd (it_rng1 hs.no (sim_int)) (by first | (show blkC ["_law_m", "_law_many", "_law_letters", "_law_start", "_law_way", "_law_size_here", "_law_at_here", "_law_stride", "_law_base", "_law_found", "_law_k", "_law_mark", "_law_bars", "_law_j", "_law_word"] (defScope (topS 32)) _ _ = true; decide +kernel) | rfl) (by decide +kernel) (fun _ _ _ _ _ => tg_name 13 S.nd) (fun _ _ _ _ _ => tsts_no) (fun _ _ _ _ _ => sim_ix (sim_var 2) (sim_mod (sim_add (sim_var 3) (sim_mul (sim_int) (sim_var 13))) (sim_int)))))) (blk_cons (st_own 9 S.nd (sim_lst (args_nil))) (blk_cons (st_for (passes_of rfl) rfl (it_rng1 hs.no (sim_var 1)) (tg_name 10 S.nd) (blk_cons (st_asg 11 S.nd (sim_ix (sim_var 2) (sim_mod (sim_add (sim_var 3) (sim_mul (sim_var 7) (sim_var 10))) (sim_int)))) (blk_cons (st_app 9 (sim_ite (tst_cmp (cr_eq hs.hu64) (sim_var 4) (sim_int)) (sim_add (sim_var 11) (sim_sl (sim_var 8) part_no (part_some (sim_mod (sim_mul (sim_var 10) (sim_var 7)) (sim_int))))) (sim_add (sim_add (sim_sl (sim_var 8) part_no (part_some (sim_var 6))) (sim_var 11)) (sim_sl (sim_var 8) (part_some (sim_add (sim_var 6) (sim_int))) (part_some (sim_var 5))))) (pv 9)) (blk_nil)))) (blk_cons (st_asg 12 S.nd (sim_lst (args_cons (sim_str) (args_cons (sim_str) (args_cons (sim_str) (args_cons (sim_str) (args_cons (sim_str) (args_cons (sim_str) (args_cons (sim_str) (args_cons (sim_str) (args_cons (sim_str) (args_cons (sim_str) (args_cons (sim_str) (args_cons (sim_str) (args_cons (sim_str) (args_nil)))))))))))))))) (blk_cons (st_asg 12 S.nd (sim_add (sim_var 12) (sim_lst (args_cons (sim_str) (args_cons (sim_str) (args_cons (sim_str) (args_cons (sim_str) (args_cons (sim_str) (args_nil))))))))) (blk_frz (blk_cons (st_ret (sim_comp [("_law_word", 14)] rfl S.nd (it_seq (sim_var 9)) (by first | (show blkC ["_law_m", "_law_many", "_law_letters", "_law_start", "_law_way", "_law_size_here", "_law_at_here", "_law_stride", "_law_base", "_law_found", "_law_k", "_law_mark", "_law_bars", "_law_j", "_law_word"] (defScope (topS 32)) _ _ = true; decide +kernel) | rfl) (by decide +kernel) (fun _ _ _ _ _ => tg_name 14 S.nd) (fun _ _ _ _ _ => tsts_no) (fun _ _ _ _ _ => sim_ite (tst_cmp (cr_notin (hs.blk _ _ _ _ _).hu65) (sim_var 14) (sim_var 12)) (sim_var 14) (sim_add (sim_add (sim_str) (sim_sl (sim_var 14) part_no (part_some (sim_int)))) (sim_str))))) (blk_nil))))))))))))

theorem sc__law_leaf : FnScope ["_law_m"] ["_law_m"] (defScope (topS 33)) := ⟨rfl, rfl, rfl, by decide +kernel, rfl, by decide +kernel, by decide +kernel⟩
theorem tie__law_leaf {w : World} {K : PySem.W.Frag} {mg : Str → Option Value} {base : Heap} {fa : Addr} {fd : FuncData} (gd_MOST_ITEMS : GDct K w mg "MOST_ITEMS" [(("row" : Str), .int 6), (("lot" : Str), .int 4)]) (hg : glA K "_law_leaf" = some fa) (hm : mg "_law_leaf" = some (.ref fa)) (F : Fun K "_law_leaf" "_law_leaf" (topS 33) fa fd) : Tied prog w K mg base T G bs "_law_leaf" f__law_leaf := by
  refine ⟨fa, fd, ["_law_m"], ["_law_m"], topS 33, "_law_leaf", hm, hg, F, F.binds (fun _ _ _ _ _ _ us hl => match us, hl with | [_], _ => rfl), sc__law_leaf, rfl, rfl, fun k C cdv hcv A outer s H E hs ce => ?_⟩
  have S := sc__law_leaf
  exact blk_cons (st_ret (sim_ix (sim_lst (args_cons (sim_int) (args_cons (sim_int) (args_cons (sim_int) (args_cons (sim_int) (args_cons (sim_int) (args_cons (sim_int) (args_cons (sim_int) (args_cons (sim_call (hs.call _ _ T__law_draw) hs.room hs.gd hs.tk (args_cons (sim_var 0) (args_cons (sim_int) (args_nil)))) (args_nil)))))))))) (sim_call (hs.call _ _ T__law_draw) hs.room hs.gd hs.tk (args_cons (sim_var 0) (args_cons (sim_int) (args_nil)))))) (blk_nil)

theorem sc__law_row : FnScope ["_law_m", "_law_most", "_law_some", "_law_k"] ["_law_m", "_law_most"] (defScope (topS 34)) := ⟨rfl, rfl, rfl, by decide +kernel, rfl, by decide +kernel, by decide +kernel⟩
theorem tie__law_row {w : World} {K : PySem.W.Frag} {mg : Str → Option Value} {base : Heap} {fa : Addr} {fd : FuncData} (gd_MOST_ITEMS : GDct K w mg "MOST_ITEMS" [(("row" : Str), .int 6), (("lot" : Str), .int 4)]) (hg : glA K "_law_row" = some fa) (hm : mg "_law_row" = some (.ref fa)) (F : Fun K "_law_row" "_law_row" (topS 34) fa fd) : Tied prog w K mg base T G bs "_law_row" f__law_row := by
  refine ⟨fa, fd, ["_law_m", "_law_most"], ["_law_m", "_law_most", "_law_some", "_law_k"], topS 34, "_law_row", hm, hg, F, F.binds (fun _ _ _ _ _ _ us hl => match us, hl with | [_, _], _ => rfl), sc__law_row, rfl, rfl, fun k C cdv hcv A outer s H E hs ce => ?_⟩
  have S := sc__law_row
  exact blk_cons (st_asg 2 S.nd (sim_lst (args_cons (sim_call (hs.call _ _ T__law_draw) hs.room hs.gd hs.tk (args_cons (sim_var 0) (args_cons (sim_int) (args_nil)))) (args_cons (sim_call (hs.call _ _ T__law_draw) hs.room hs.gd hs.tk (args_cons (sim_var 0) (args_cons (sim_int) (args_nil)))) (args_cons (sim_int) (args_cons (sim_tup (args_cons (sim_int) (args_nil))) (args_cons (sim_tup (args_nil)) (args_cons (sim_tup (args_cons (sim_int) (args_cons (sim_int) (args_nil)))) (args_cons (sim_tup (args_cons (sim_int) (args_cons (sim_int) (args_nil)))) (args_cons (sim_call (hs.call _ _ T__law_leaf) hs.room hs.gd hs.tk (args_cons (sim_var 0) (args_nil))) (args_nil))))))))))) (blk_cons (st_ret (sim_bltT br_tuple (args_cons (sim_comp [("_law_k", 3)] rfl S.nd (it_rng1 hs.no (sim_call (hs.call _ _ T__law_draw) hs.room hs.gd hs.tk (args_cons (sim_var 0) (args_cons (sim_add (sim_var 1) (sim_int)) (args_nil))))) (by first | (show blkC ["_law_m", "_law_most", "_law_some", "_law_k"] (defScope (topS 34)) _ _ = true; decide +kernel) | rfl) (by decide +kernel) (fun _ _ _ _ _ => tg_name 3 S.nd) (fun _ _ _ _ _ => tsts_no) (fun _ _ _ _ _ => sim_ix (sim_var 2) (sim_call ((hs.blk _ _ _ _ _).call _ _ T__law_draw) (hs.blk _ _ _ _ _).room (hs.blk _ _ _ _ _).gd (hs.blk _ _ _ _ _).tk (args_cons (sim_var 0) (args_cons (sim_ix (sim_lst (args_cons (sim_int) (args_cons (sim_int) (args_cons (sim_int) (args_nil))))) (sim_call ((hs.blk _ _ _ _ _).call _ _ T__law_draw) (hs.blk _ _ _ _ _).room (hs.blk _ _ _ _ _).gd (hs.blk _ _ _ _ _).tk (args_cons (sim_var 0) (args_cons (sim_int) (args_nil))))) (args_nil)))))) (args_nil)) hs.no (by decide +kernel))) (blk_nil))

theorem sc__law_item_parts : FnScope ["_law_m", "_law_w", "_law_known_here", "_law_deep", "_law_room", "_law_word", "_law_found", "_law_k", "_law_item"] ["_law_m", "_law_w", "_law_known_here", "_law_deep", "_law_room", "_law_word"] (defScope (topS 35)) := ⟨rfl, rfl, rfl, by decide +kernel, rfl, by decide +kernel, by decide +kernel⟩
theorem tie__law_item_parts {w : World} {K : PySem.W.Frag} {mg : Str → Option Value} {base : Heap} {fa : Addr} {fd : FuncData} (gd_MOST_ITEMS : GDct K w mg "MOST_ITEMS" [(("row" : Str), .int 6), (("lot" : Str), .int 4)]) (hg : glA K "_law_item_parts" = some fa) (hm : mg "_law_item_parts" = some (.ref fa)) (F : Fun K "_law_item_parts" "_law_item_parts" (topS 35) fa fd) : Tied prog w K mg base T G bs "_law_item_parts" f__law_item_parts := by
  refine ⟨fa, fd, ["_law_m", "_law_w", "_law_known_here", "_law_deep", "_law_room", "_law_word"], ["_law_m", "_law_w", "_law_known_here", "_law_deep", "_law_room", "_law_word", "_law_found", "_law_k", "_law_item"], topS 35, "_law_item_parts", hm, hg, F, F.binds (fun _ _ _ _ _ _ us hl => match us, hl with | [_, _, _, _, _, _], _ => rfl), sc__law_item_parts, rfl, rfl, fun k C cdv hcv A outer s H E hs ce => ?_⟩
  have S := sc__law_item_parts
  exact blk_cons (st_own 6 S.nd (sim_lst (args_nil))) (blk_cons (st_for (passes_of rfl) rfl (it_rng1 hs.no (sim_call (hs.call _ _ T__law_draw) hs.room hs.gd hs.tk (args_cons (sim_var 0) (args_cons (sim_int) (args_nil))))) (tg_name 7 S.nd) (blk_cons (st_asg 8 S.nd (sim_ite (tst_cmp (cr_eq hs.hu64) (sim_var 5) (sim_str)) (sim_ix (sim_lst (args_cons (sim_str) (args_cons (sim_str) (args_cons (sim_str) (args_nil))))) (sim_call (hs.call _ _ T__law_draw) hs.room hs.gd hs.tk (args_cons (sim_var 0) (args_cons (sim_int) (args_nil))))) (sim_str))) (blk_cons (st_app 6 (sim_tup (args_cons (sim_var 8) (args_cons (sim_call (hs.call _ _ T__law_pattern) hs.room hs.gd hs.tk (args_cons (sim_var 0) (args_cons (sim_var 1) (args_cons (sim_var 2) (args_cons (sim_var 3) (args_cons (sim_var 4) (args_nil))))))) (args_nil)))) (pv 6)) (blk_nil)))) (blk_cons (st_if (tst_cmp (cr_gt hs.hu64) (sim_call (hs.call _ _ T__law_draw) hs.room hs.gd hs.tk (args_cons (sim_var 0) (args_cons (sim_int) (args_nil)))) (sim_int)) (blk_cons (st_app 6 (sim_tup (args_cons (sim_ite (tst_cmp (cr_eq hs.hu64) (sim_var 5) (sim_str)) (sim_str) (sim_str)) (args_cons (sim_call (hs.call _ _ T__law_pattern) hs.room hs.gd hs.tk (args_cons (sim_var 0) (args_cons (sim_var 1) (args_cons (sim_var 2) (args_cons (sim_var 3) (args_cons (sim_var 4) (args_nil))))))) (args_nil)))) (pv 6)) (blk_nil)) (blk_nil)) (blk_frz (blk_cons (st_ret (sim_bltT br_tuple (args_cons (sim_var 6) (args_nil)) hs.no (by decide +kernel))) (blk_nil)))))

theorem sc__law_pattern : FnScope ["_law_m", "_law_w", "_law_known_here", "_law_deep", "_law_room", "_law_way", "_law_small", "_law_part", "_law_args", "_law_word", "_law_one"] ["_law_m", "_law_w", "_law_known_here", "_law_deep", "_law_room"] (defScope (topS 36)) := ⟨rfl, rfl, rfl, by decide +kernel, rfl, by decide +kernel, by decide +kernel⟩
theorem tie__law_pattern {w : World} {K : PySem.W.Frag} {mg : Str → Option Value} {base : Heap} {fa : Addr} {fd : FuncData} (gd_MOST_ITEMS : GDct K w mg "MOST_ITEMS" [(("row" : Str), .int 6), (("lot" : Str), .int 4)]) (hg : glA K "_law_pattern" = some fa) (hm : mg "_law_pattern" = some (.ref fa)) (F : Fun K "_law_pattern" "_law_pattern" (topS 36) fa fd) : Tied prog w K mg base T G bs "_law_pattern" f__law_pattern := by
  refine ⟨fa, fd, ["_law_m", "_law_w", "_law_known_here", "_law_deep", "_law_room"], ["_law_m", "_law_w", "_law_known_here", "_law_deep", "_law_room", "_law_way", "_law_small", "_law_part", "_law_args", "_law_word", "_law_one"], topS 36, "_law_pattern", hm, hg, F, F.binds (fun _ _ _ _ _ _ us hl => match us, hl with | [_, _, _, _, _], _ => rfl), sc__law_pattern, rfl, rfl, fun k C cdv hcv A outer s H E hs ce => ?_⟩
  have S := sc__law_pattern
  exact blk_cons (st_asg 5 S.nd (sim_call (hs.call _ _ T__law_draw) hs.room hs.gd hs.tk (args_cons (sim_var 0) (args_cons (sim_int) (args_nil))))) (blk_cons (st_setL (sim_sub (sim_ix (sim_var 4) (sim_int)) (sim_int)) (sim_var 4) (sim_int)) (blk_cons (st_asg 6 S.nd (sim_lst (args_cons (sim_tup (args_cons (sim_str) (args_nil))) (args_cons (sim_tup (args_cons (sim_str) (args_cons (sim_ix (sim_var 1) (sim_call (hs.call _ _ T__law_draw) hs.room hs.gd hs.tk (args_cons (sim_var 0) (args_cons (sim_int) (args_nil))))) (args_nil)))) (args_cons (sim_tup (args_cons (sim_str) (args_cons (sim_ix (sim_var 1) (sim_call (hs.call _ _ T__law_draw) hs.room hs.gd hs.tk (args_cons (sim_var 0) (args_cons (sim_blt br_len (args_cons (sim_var 1) (args_nil)) hs.no (by decide +kernel)) (args_nil))))) (args_nil)))) (args_cons (sim_tup (args_cons (sim_str) (args_cons (sim_call (hs.call _ _ T__law_leaf) hs.room hs.gd hs.tk (args_cons (sim_var 0) (args_nil))) (args_nil)))) (args_nil))))))) (blk_cons (st_if ((tst_or (tst_cmp (cr_lt hs.hu64) (sim_var 3) (sim_int)) (tst_or (tst_cmp (cr_lt hs.hu64) (sim_ix (sim_var 4) (sim_int)) (sim_int)) (tst_last (tst_cmp (cr_lt hs.hu64) (sim_var 5) (sim_int))))).pt) (blk_cons (st_ret (sim_ix (sim_add (sim_var 6) (sim_lst (args_cons (sim_tup (args_cons (sim_str) (args_cons (sim_call (hs.call _ _ T__law_row) hs.room hs.gd hs.tk (args_cons (sim_var 0) (args_cons (sim_int) (args_nil)))) (args_nil)))) (args_nil)))) (sim_mod (sim_var 5) (sim_int)))) (blk_nil)) (blk_nil)) (blk_cons (st_if ((tst_and (tst_cmp (cr_lt hs.hu64) (sim_var 5) (sim_int)) (tst_last (tst_cmp (cr_ne hs.hu64) (sim_var 2) (sim_lst (args_nil))))).pt) (blk_cons (st_asg 7 S.nd (sim_ix (sim_var 2) (sim_call (hs.call _ _ T__law_draw) hs.room hs.gd hs.tk (args_cons (sim_var 0) (args_cons (sim_blt br_len (args_cons (sim_var 2) (args_nil)) hs.no (by decide +kernel)) (args_nil)))))) (blk_cons (st_if (tst_cmp (cr_eq hs.hu64) (sim_ix (sim_var 7) (sim_int)) (sim_str)) (blk_cons (st_ret (sim_var 7)) (blk_nil)) (blk_nil)) (blk_cons (st_asgC 8 [("_law_one", 10)] rfl S.nd (it_seq (sim_ix (sim_var 7) (sim_int))) (by first | (show blkC ["_law_m", "_law_w", "_law_known_here", "_law_deep", "_law_room", "_law_way", "_law_small", "_law_part", "_law_args", "_law_word", "_law_one"] (defScope (topS 36)) _ _ = true; decide +kernel) | rfl) (by decide +kernel) (fun _ _ _ _ _ => tg_name 10 S.nd) (fun _ _ _ _ _ => tsts_no) (fun _ _ _ _ _ => sim_call ((hs.blk _ _ _ _ _).call _ _ T__law_pattern) (hs.blk _ _ _ _ _).room (hs.blk _ _ _ _ _).gd (hs.blk _ _ _ _ _).tk (args_cons (sim_var 0) (args_cons (sim_var 1) (args_cons (sim_var 2) (args_cons (sim_sub (sim_var 3) (sim_int)) (args_cons (sim_var 4) (args_nil))))))) (sw_true rfl rfl rfl (by decide +kernel))) (blk_cons (st_ret (sim_add (sim_sl (sim_var 7) part_no (part_some (sim_int))) (sim_tup (args_cons (sim_bltT br_tuple (args_cons (sim_var 8) (args_nil)) hs.no (by decide +kernel)) (args_nil))))) (blk_nil))))) (blk_nil)) (blk_cons (st_if (tst_cmp (cr_lt hs.hu64) (sim_var 5) (sim_int)) (blk_cons (st_asg 9 S.nd (sim_ite (tst_cmp (cr_gt hs.hu64) (sim_var 5) (sim_int)) (sim_ix (sim_lst (args_cons (sim_str) (args_cons (sim_str) (args_cons (sim_str) (args_cons (sim_str) (args_cons (sim_str) (args_nil))))))) (sim_sub (sim_var 5) (sim_int))) (sim_str))) (blk_cons (st_ret (sim_tup (args_cons (sim_var 9) (args_cons (sim_call (hs.call _ _ T__law_item_parts) hs.room hs.gd hs.tk (args_cons (sim_var 0) (args_cons (sim_var 1) (args_cons (sim_var 2) (args_cons (sim_sub (sim_var 3) (sim_int)) (args_cons (sim_var 4) (args_cons (sim_var 9) (args_nil)))))))) (args_nil))))) (blk_nil))) (blk_nil)) (blk_cons (st_if (tst_cmp (cr_lt hs.hu64) (sim_var 5) (sim_int)) (blk_cons (st_asg 10 S.nd (sim_call (hs.call _ _ T__law_pattern) hs.room hs.gd hs.tk (args_cons (sim_var 0) (args_cons (sim_var 1) (args_cons (sim_var 2) (args_cons (sim_sub (sim_var 3) (sim_int)) (args_cons (sim_var 4) (args_nil)))))))) (blk_cons (st_ret (sim_tup (args_cons (sim_ix (sim_lst (args_cons (sim_str) (args_cons (sim_str) (args_nil)))) (sim_sub (sim_var 5) (sim_int))) (args_cons (sim_var 10) (args_cons (sim_call (hs.call _ _ T__law_pattern) hs.room hs.gd hs.tk (args_cons (sim_var 0) (args_cons (sim_var 1) (args_cons (sim_var 2) (args_cons (sim_sub (sim_var 3) (sim_int)) (args_cons (sim_var 4) (args_nil))))))) (args_nil)))))) (blk_nil))) (blk_nil)) (blk_cons (st_asg 9 S.nd (sim_ix (sim_lst (args_cons (sim_str) (args_cons (sim_str) (args_cons (sim_str) (args_cons (sim_str) (args_nil)))))) (sim_call (hs.call _ _ T__law_draw) hs.room hs.gd hs.tk (args_cons (sim_var 0) (args_cons (sim_int) (args_nil)))))) (blk_cons (st_ret (sim_tup (args_cons (sim_var 9) (args_cons (sim_call (hs.call _ _ T__law_pattern) hs.room hs.gd hs.tk (args_cons (sim_var 0) (args_cons (sim_var 1) (args_cons (sim_var 2) (args_cons (sim_sub (sim_var 3) (sim_int)) (args_cons (sim_var 4) (args_nil))))))) (args_nil))))) (blk_nil)))))))))

theorem sc__law_is_name : FnScope ["_law_thing", "_law_bars", "_law_sign"] ["_law_thing"] (defScope (topS 37)) := ⟨rfl, rfl, rfl, by decide +kernel, rfl, by decide +kernel, by decide +kernel⟩
theorem tie__law_is_name {w : World} {K : PySem.W.Frag} {mg : Str → Option Value} {base : Heap} {fa : Addr} {fd : FuncData} (gd_MOST_ITEMS : GDct K w mg "MOST_ITEMS" [(("row" : Str), .int 6), (("lot" : Str), .int 4)]) (hg : glA K "_law_is_name" = some fa) (hm : mg "_law_is_name" = some (.ref fa)) (F : Fun K "_law_is_name" "_law_is_name" (topS 37) fa fd) : Tied prog w K mg base T G bs "_law_is_name" f__law_is_name := by
  refine ⟨fa, fd, ["_law_thing"], ["_law_thing", "_law_bars", "_law_sign"], topS 37, "_law_is_name", hm, hg, F, F.binds (fun _ _ _ _ _ _ us hl => match us, hl with | [_], _ => rfl), sc__law_is_name, rfl, rfl, fun k C cdv hcv A outer s H E hs ce => ?_⟩
  have S := sc__law_is_name
  exact blk_cons (st_asg 1 S.nd (sim_split (sim_str) (sim_str))) (blk_cons (st_if ((tst_or (tst_not (tst_val (sim_isi .str (sim_var 0) hs.no hs.no))) (tst_or (tst_not (tst_chain cr_le cr_le (sim_int) (sim_blt br_len (args_cons (sim_var 0) (args_nil)) hs.no (by decide +kernel)) (sim_int))) (tst_last (tst_cmp (cr_in hs.hu65) (sim_var 0) (sim_var 1))))).pt) (blk_cons (st_ret (sim_bl)) (blk_nil)) (blk_nil)) (blk_cons (st_ret (sim_cmp (cr_eq hs.hu64) (sim_comp [("_law_sign", 2)] rfl S.nd (it_seq (sim_var 0)) (by first | (show blkC ["_law_thing", "_law_bars", "_law_sign"] (defScope (topS 37)) _ _ = true; decide +kernel) | rfl) (by decide +kernel) (fun _ _ _ _ _ => tg_name 2 S.nd) (fun _ _ _ _ _ => tsts_one (tst_cmp (cr_notin (hs.blk _ _ _ _ _).hu65) (sim_var 2) (sim_str))) (fun _ _ _ _ _ => sim_var 2)) (sim_lst (args_nil)))) (blk_nil)))

theorem sc__law_size : FnScope ["_law_thing", "_law_deep", "_law_one"] ["_law_thing", "_law_deep"] (defScope (topS 38)) := ⟨rfl, rfl, rfl, by decide +kernel, rfl, by decide +kernel, by decide +kernel⟩
theorem tie__law_size {w : World} {K : PySem.W.Frag} {mg : Str → Option Value} {base : Heap} {fa : Addr} {fd : FuncData} (gd_MOST_ITEMS : GDct K w mg "MOST_ITEMS" [(("row" : Str), .int 6), (("lot" : Str), .int 4)]) (hg : glA K "_law_size" = some fa) (hm : mg "_law_size" = some (.ref fa)) (F : Fun K "_law_size" "_law_size" (topS 38) fa fd) : Tied prog w K mg base T G bs "_law_size" f__law_size := by
  refine ⟨fa, fd, ["_law_thing", "_law_deep"], ["_law_thing", "_law_deep", "_law_one"], topS 38, "_law_size", hm, hg, F, F.binds (fun _ _ _ _ _ _ us hl => match us, hl with | [_, _], _ => rfl), sc__law_size, rfl, rfl, fun k C cdv hcv A outer s H E hs ce => ?_⟩
  have S := sc__law_size
  exact blk_cons (st_if ((tst_and (tst_val (sim_isi .int (sim_var 0) hs.no hs.no)) (tst_and (tst_not (tst_val (sim_isi .bool (sim_var 0) hs.no hs.no))) (tst_last (tst_cmp (cr_gt hs.hu64) (sim_var 1) (sim_int))))).pt) (blk_cons (st_ret (sim_ite (tst_chain cr_le cr_le (sim_int) (sim_var 0) (sim_int)) (sim_int) (sim_int))) (blk_nil)) (blk_nil)) (blk_cons (st_if ((tst_or (tst_not (tst_val (sim_isi .tuple (sim_var 0) hs.no hs.no))) (tst_or (tst_cmp (cr_eq hs.hu64) (sim_var 1) (sim_int)) (tst_last (tst_cmp (cr_gt hs.hu64) (sim_blt br_len (args_cons (sim_var 0) (args_nil)) hs.no (by decide +kernel)) (sim_int))))).pt) (blk_cons (st_ret (sim_int)) (blk_nil)) (blk_nil)) (blk_cons (st_ret (sim_add (sim_int) (sim_blt (br_sum rfl) (args_cons (sim_comp [("_law_one", 2)] rfl S.nd (it_seq (sim_var 0)) (by first | (show blkC ["_law_thing", "_law_deep", "_law_one"] (defScope (topS 38)) _ _ = true; decide +kernel) | rfl) (by decide +kernel) (fun _ _ _ _ _ => tg_name 2 S.nd) (fun _ _ _ _ _ => tsts_no) (fun _ _ _ _ _ => sim_call ((hs.blk _ _ _ _ _).call _ _ T__law_size) (hs.blk _ _ _ _ _).room (hs.blk _ _ _ _ _).gd (hs.blk _ _ _ _ _).tk (args_cons (sim_var 2) (args_cons (sim_sub (sim_var 1) (sim_int)) (args_nil))))) (args_nil)) hs.no (by decide +kernel)))) (blk_nil)))

theorem sc__law_inner : FnScope ["_law_word", "_law_rest", "_law_good", "_law_at_here", "_law_item", "_law_more"] ["_law_word", "_law_rest"] (defScope (topS 39)) := ⟨rfl, rfl, rfl, by decide +kernel, rfl, by decide +kernel, by decide +kernel⟩
theorem tie__law_inner {w : World} {K : PySem.W.Frag} {mg : Str → Option Value} {base : Heap} {fa : Addr} {fd : FuncData} (gd_MOST_ITEMS : GDct K w mg "MOST_ITEMS" [(("row" : Str), .int 6), (("lot" : Str), .int 4)]) (hg : glA K "_law_inner" = some fa) (hm : mg "_law_inner" = some (.ref fa)) (F : Fun K "_law_inner" "_law_inner" (topS 39) fa fd) : Tied prog w K mg base T G bs "_law_inner" f__law_inner := by
  refine ⟨fa, fd, ["_law_word", "_law_rest"], ["_law_word", "_law_rest", "_law_good", "_law_at_here", "_law_item", "_law_more"], topS 39, "_law_inner", hm, hg, F, F.binds (fun _ _ _ _ _ _ us hl => match us, hl with | [_, _], _ => rfl), sc__law_inner, rfl, rfl, fun k C cdv hcv A outer s H E hs ce => ?_⟩
  have S := sc__law_inner
  exact blk_cons (st_if (tst_cmp (cr_in hs.hu65) (sim_var 0) (sim_tup (args_cons (sim_str) (args_cons (sim_str) (args_nil))))) (blk_cons (st_ret (sim_ite (tst_cmp (cr_eq hs.hu64) (sim_blt br_len (args_cons (sim_var 1) (args_nil)) hs.no (by decide +kernel)) (sim_int)) (sim_bltT br_list (args_cons (sim_var 1) (args_nil)) hs.no (by decide +kernel)) (sim_non))) (blk_nil)) (blk_nil)) (blk_cons (st_if (tst_cmp (cr_in hs.hu65) (sim_var 0) (sim_tup (args_cons (sim_str) (args_cons (sim_str) (args_cons (sim_str) (args_cons (sim_str) (args_nil))))))) (blk_cons (st_ret (sim_ite (tst_cmp (cr_eq hs.hu64) (sim_blt br_len (args_cons (sim_var 1) (args_nil)) hs.no (by decide +kernel)) (sim_int)) (sim_bltT br_list (args_cons (sim_var 1) (args_nil)) hs.no (by decide +kernel)) (sim_non))) (blk_nil)) (blk_nil)) (blk_cons (st_if (tst_cmp (cr_eq hs.hu64) (sim_var 0) (sim_str)) (blk_cons (st_asg 2 S.nd (sim_and (sim_cmp (cr_eq hs.hu64) (sim_blt br_len (args_cons (sim_var 1) (args_nil)) hs.no (by decide +kernel)) (sim_int)) (sim_and (sim_call (hs.call _ _ T__law_is_name) hs.room hs.gd hs.tk (args_cons (sim_ix (sim_var 1) (sim_int)) (args_nil))) (sim_and (sim_isi .tuple (sim_ix (sim_var 1) (sim_int)) hs.no hs.no) (sim_last (sim_cmp (cr_lt hs.hu64) (sim_blt br_len (args_cons (sim_ix (sim_var 1) (sim_int)) (args_nil)) hs.no (by decide +kernel)) (sim_int))))))) (blk_cons (st_ret (sim_ite (tst_val (sim_var 2)) (sim_bltT br_list (args_cons (sim_ix (sim_var 1) (sim_int)) (args_nil)) hs.no (by decide +kernel)) (sim_non))) (blk_nil))) (blk_nil)) (blk_cons (st_if ((tst_or (tst_cmp (cr_notin hs.hu65) (sim_var 0) (sim_tup (args_cons (sim_str) (args_cons (sim_str) (args_nil))))) (tst_or (tst_cmp (cr_ne hs.hu64) (sim_blt br_len (args_cons (sim_var 1) (args_nil)) hs.no (by decide +kernel)) (sim_int)) (tst_last (tst_not (tst_val (sim_isi .tuple (sim_ix (sim_var 1) (sim_int)) hs.no hs.no)))))).pt) (blk_cons (st_ret (sim_non)) (blk_nil)) (blk_nil)) (blk_cons (st_for (passes_of rfl) rfl (it_enum hs.no (sim_ix (sim_var 1) (sim_int))) (tg_tup rfl (tgs_cons 3 S.nd (tgs_cons 4 S.nd (tgs_nil)))) (blk_cons (st_if ((tst_or (tst_not (tst_val (sim_isi .tuple (sim_var 4) hs.no hs.no))) (tst_or (tst_cmp (cr_ne hs.hu64) (sim_blt br_len (args_cons (sim_var 4) (args_nil)) hs.no (by decide +kernel)) (sim_int)) (tst_last (tst_not (tst_val (sim_isi .str (sim_ix (sim_var 4) (sim_int)) hs.no hs.no)))))).pt) (blk_cons (st_ret (sim_non)) (blk_nil)) (blk_nil)) (blk_cons (st_asg 5 S.nd (sim_ite (tst_cmp (cr_eq hs.hu64) (sim_var 0) (sim_str)) (sim_lst (args_cons (sim_str) (args_nil))) (sim_mul (sim_lst (args_cons (sim_str) (args_nil))) (sim_bltT br_int (args_cons (sim_cmp (cr_eq hs.hu64) (sim_var 3) (sim_sub (sim_blt br_len (args_cons (sim_ix (sim_var 1) (sim_int)) (args_nil)) hs.no (by decide +kernel)) (sim_int))) (args_nil)) hs.no (by decide +kernel))))) (blk_cons (st_if (tst_cmp (cr_notin hs.hu65) (sim_ix (sim_var 4) (sim_int)) (sim_add (sim_lst (args_cons (sim_str) (args_nil))) (sim_var 5))) (blk_cons (st_ret (sim_non)) (blk_nil)) (blk_nil)) (blk_nil))))) (blk_cons (st_ret (sim_ite (tst_cmp (cr_lt hs.hu64) (sim_blt br_len (args_cons (sim_ix (sim_var 1) (sim_int)) (args_nil)) hs.no (by decide +kernel)) (sim_ix (sim_lst (args_cons (sim_int) (args_cons (sim_int) (args_nil)))) (sim_bltT br_int (args_cons (sim_cmp (cr_eq hs.hu64) (sim_var 0) (sim_str)) (args_nil)) hs.no (by decide +kernel)))) (sim_comp [("_law_item", 4)] rfl S.nd (it_seq (sim_ix (sim_var 1) (sim_int))) (by first | (show blkC ["_law_word", "_law_rest", "_law_good", "_law_at_here", "_law_item", "_law_more"] (defScope (topS 39)) _ _ = true; decide +kernel) | rfl) (by decide +kernel) (fun _ _ _ _ _ => tg_name 4 S.nd) (fun _ _ _ _ _ => tsts_no) (fun _ _ _ _ _ => sim_ix (sim_var 4) (sim_int))) (sim_non))) (blk_nil))))))

theorem sc__law_parts : FnScope ["_law_thing", "_law_deep", "_law_word", "_law_rest", "_law_some", "_law_one"] ["_law_thing", "_law_deep"] (defScope (topS 40)) := ⟨rfl, rfl, rfl, by decide +kernel, rfl, by decide +kernel, by decide +kernel⟩
theorem tie__law_parts {w : World} {K : PySem.W.Frag} {mg : Str → Option Value} {base : Heap} {fa : Addr} {fd : FuncData} (gd_MOST_ITEMS : GDct K w mg "MOST_ITEMS" [(("row" : Str), .int 6), (("lot" : Str), .int 4)]) (hg : glA K "_law_parts" = some fa) (hm : mg "_law_parts" = some (.ref fa)) (F : Fun K "_law_parts" "_law_parts" (topS 40) fa fd) : Tied prog w K mg base T G bs "_law_parts" f__law_parts := by
  refine ⟨fa, fd, ["_law_thing", "_law_deep"], ["_law_thing", "_law_deep", "_law_word", "_law_rest", "_law_some", "_law_one"], topS 40, "_law_parts", hm, hg, F, F.binds (fun _ _ _ _ _ _ us hl => match us, hl with | [_, _], _ => rfl), sc__law_parts, rfl, rfl, fun k C cdv hcv A outer s H E hs ce => ?_⟩
  have S := sc__law_parts
  exact blk_cons (st_if ((tst_or (tst_cmp (cr_eq hs.hu64) (sim_var 1) (sim_int)) (tst_or (tst_not (tst_val (sim_isi .tuple (sim_var 0) hs.no hs.no))) (tst_or (tst_cmp (cr_eq hs.hu64) (sim_var 0) (sim_tup (args_nil))) (tst_last (tst_not (tst_val (sim_isi .str (sim_ix (sim_var 0) (sim_int)) hs.no hs.no))))))).pt) (blk_cons (st_ret (sim_int)) (blk_nil)) (blk_nil)) (blk_cons (st_par 2 3 rfl S.nd (args_cons (sim_ix (sim_var 0) (sim_int)) (args_cons (sim_sl (sim_var 0) (part_some (sim_int)) part_no) (args_nil))) (by rfl)) (blk_cons (st_if (tst_cmp (cr_eq hs.hu64) (sim_var 2) (sim_str)) (blk_cons (st_ret (sim_ite (tst_cmp (cr_eq hs.hu64) (sim_var 3) (sim_tup (args_nil))) (sim_int) (sim_int))) (blk_nil)) (blk_nil)) (blk_cons (st_if (tst_cmp (cr_in hs.hu65) (sim_var 2) (sim_tup (args_cons (sim_str) (args_cons (sim_str) (args_cons (sim_str) (args_nil)))))) (blk_cons (st_if (tst_cmp (cr_ne hs.hu64) (sim_blt br_len (args_cons (sim_var 3) (args_nil)) hs.no (by decide +kernel)) (sim_int)) (blk_cons (st_ret (sim_int)) (blk_nil)) (blk_nil)) (blk_cons (st_ret (sim_ite (tst_ite (tst_cmp (cr_eq hs.hu64) (sim_var 2) (sim_str)) (tst_cmp (cr_lt hs.hu64) (sim_call (hs.call _ _ T__law_size) hs.room hs.gd hs.tk (args_cons (sim_ix (sim_var 3) (sim_int)) (args_cons (sim_int) (args_nil)))) (sim_int)) (tst_val (sim_call (hs.call _ _ T__law_is_name) hs.room hs.gd hs.tk (args_cons (sim_ix (sim_var 3) (sim_int)) (args_nil))))) (sim_int) (sim_int))) (blk_nil))) (blk_nil)) (blk_cons (st_asg 4 S.nd (sim_call (hs.call _ _ T__law_inner) hs.room hs.gd hs.tk (args_cons (sim_var 2) (args_cons (sim_var 3) (args_nil))))) (blk_cons (st_ret (sim_ite (tst_cmp cr_is (sim_var 4) (sim_non)) (sim_int) (sim_add (sim_int) (sim_blt (br_sum rfl) (args_cons (sim_comp [("_law_one", 5)] rfl S.nd (it_seq (sim_var 4)) (by first | (show blkC ["_law_thing", "_law_deep", "_law_word", "_law_rest", "_law_some", "_law_one"] (defScope (topS 40)) _ _ = true; decide +kernel) | rfl) (by decide +kernel) (fun _ _ _ _ _ => tg_name 5 S.nd) (fun _ _ _ _ _ => tsts_no) (fun _ _ _ _ _ => sim_call ((hs.blk _ _ _ _ _).call _ _ T__law_parts) (hs.blk _ _ _ _ _).room (hs.blk _ _ _ _ _).gd (hs.blk _ _ _ _ _).tk (args_cons (sim_var 5) (args_cons (sim_sub (sim_var 1) (sim_int)) (args_nil))))) (args_nil)) hs.no (by decide +kernel))))) (blk_nil))))))

theorem sc__law_spots : FnScope ["_law_thing", "_law_way", "_law_found", "_law_at_here", "_law_one"] ["_law_thing", "_law_way"] (defScope (topS 41)) := ⟨rfl, rfl, rfl, by decide +kernel, rfl, by decide +kernel, by decide +kernel⟩
theorem tie__law_spots {w : World} {K : PySem.W.Frag} {mg : Str → Option Value} {base : Heap} {fa : Addr} {fd : FuncData} (gd_MOST_ITEMS : GDct K w mg "MOST_ITEMS" [(("row" : Str), .int 6), (("lot" : Str), .int 4)]) (hg : glA K "_law_spots" = some fa) (hm : mg "_law_spots" = some (.ref fa)) (F : Fun K "_law_spots" "_law_spots" (topS 41) fa fd) : Tied prog w K mg base T G bs "_law_spots" f__law_spots := by
  refine ⟨fa, fd, ["_law_thing", "_law_way"], ["_law_thing", "_law_way", "_law_found", "_law_at_here", "_law_one"], topS 41, "_law_spots", hm, hg, F, F.binds (fun _ _ _ _ _ _ us hl => match us, hl with | [_, _], _ => rfl), sc__law_spots, rfl, rfl, fun k C cdv hcv A outer s H E hs ce => ?_⟩
  have S := sc__law_spots
  exact blk_cons (st_asg 2 S.nd (sim_lst (args_cons (sim_var 1) (args_nil)))) (blk_cons (st_for (passes_of rfl) rfl (it_enum hs.no (sim_ite (tst_val (sim_isi .tuple (sim_var 0) hs.no hs.no)) (sim_var 0) (sim_tup (args_nil)))) (tg_tup rfl (tgs_cons 3 S.nd (tgs_cons 4 S.nd (tgs_nil)))) (blk_cons (st_asg 2 S.nd (sim_add (sim_var 2) (sim_call (hs.call _ _ T__law_spots) hs.room hs.gd hs.tk (args_cons (sim_var 4) (args_cons (sim_add (sim_var 1) (sim_lst (args_cons (sim_var 3) (args_nil)))) (args_nil)))))) (blk_nil))) (blk_cons (st_ret (sim_var 2)) (blk_nil)))

theorem sc__law_at : FnScope ["_law_thing", "_law_way", "_law_at_here"] ["_law_thing", "_law_way"] (defScope (topS 42)) := ⟨rfl, rfl, rfl, by decide +kernel, rfl, by decide +kernel, by decide +kernel⟩
theorem tie__law_at {w : World} {K : PySem.W.Frag} {mg : Str → Option Value} {base : Heap} {fa : Addr} {fd : FuncData} (gd_MOST_ITEMS : GDct K w mg "MOST_ITEMS" [(("row" : Str), .int 6), (("lot" : Str), .int 4)]) (hg : glA K "_law_at" = some fa) (hm : mg "_law_at" = some (.ref fa)) (F : Fun K "_law_at" "_law_at" (topS 42) fa fd) : Tied prog w K mg base T G bs "_law_at" f__law_at := by
  refine ⟨fa, fd, ["_law_thing", "_law_way"], ["_law_thing", "_law_way", "_law_at_here"], topS 42, "_law_at", hm, hg, F, F.binds (fun _ _ _ _ _ _ us hl => match us, hl with | [_, _], _ => rfl), sc__law_at, rfl, rfl, fun k C cdv hcv A outer s H E hs ce => ?_⟩
  have S := sc__law_at
  exact blk_cons (st_for (passes_of rfl) rfl (it_seq (sim_var 1)) (tg_name 2 S.nd) (blk_cons (st_asg 0 S.nd (sim_ix (sim_var 0) (sim_var 2))) (blk_nil))) (blk_cons (st_ret (sim_var 0)) (blk_nil))

theorem sc__law_put : FnScope ["_law_thing", "_law_way", "_law_fresh", "_law_at_here"] ["_law_thing", "_law_way", "_law_fresh"] (defScope (topS 43)) := ⟨rfl, rfl, rfl, by decide +kernel, rfl, by decide +kernel, by decide +kernel⟩
theorem tie__law_put {w : World} {K : PySem.W.Frag} {mg : Str → Option Value} {base : Heap} {fa : Addr} {fd : FuncData} (gd_MOST_ITEMS : GDct K w mg "MOST_ITEMS" [(("row" : Str), .int 6), (("lot" : Str), .int 4)]) (hg : glA K "_law_put" = some fa) (hm : mg "_law_put" = some (.ref fa)) (F : Fun K "_law_put" "_law_put" (topS 43) fa fd) : Tied prog w K mg base T G bs "_law_put" f__law_put := by
  refine ⟨fa, fd, ["_law_thing", "_law_way", "_law_fresh"], ["_law_thing", "_law_way", "_law_fresh", "_law_at_here"], topS 43, "_law_put", hm, hg, F, F.binds (fun _ _ _ _ _ _ us hl => match us, hl with | [_, _, _], _ => rfl), sc__law_put, rfl, rfl, fun k C cdv hcv A outer s H E hs ce => ?_⟩
  have S := sc__law_put
  exact blk_cons (st_if (tst_cmp (cr_eq hs.hu64) (sim_var 1) (sim_lst (args_nil))) (blk_cons (st_ret (sim_var 2)) (blk_nil)) (blk_nil)) (blk_cons (st_asg 3 S.nd (sim_ix (sim_var 1) (sim_int))) (blk_cons (st_ret (sim_add (sim_add (sim_sl (sim_var 0) part_no (part_some (sim_var 3))) (sim_tup (args_cons (sim_call (hs.call _ _ T__law_put) hs.room hs.gd hs.tk (args_cons (sim_ix (sim_var 0) (sim_var 3)) (args_cons (sim_sl (sim_var 1) (part_some (sim_int)) part_no) (args_cons (sim_var 2) (args_nil))))) (args_nil)))) (sim_sl (sim_var 0) (part_some (sim_add (sim_var 3) (sim_int))) part_no))) (blk_nil)))

theorem sc__law_odd : FnScope ["_law_m", "_law_some"] ["_law_m"] (defScope (topS 44)) := ⟨rfl, rfl, rfl, by decide +kernel, rfl, by decide +kernel, by decide +kernel⟩
theorem tie__law_odd {w : World} {K : PySem.W.Frag} {mg : Str → Option Value} {base : Heap} {fa : Addr} {fd : FuncData} (gd_MOST_ITEMS : GDct K w mg "MOST_ITEMS" [(("row" : Str), .int 6), (("lot" : Str), .int 4)]) (hg : glA K "_law_odd" = some fa) (hm : mg "_law_odd" = some (.ref fa)) (F : Fun K "_law_odd" "_law_odd" (topS 44) fa fd) : Tied prog w K mg base T G bs "_law_odd" f__law_odd := by
  refine ⟨fa, fd, ["_law_m"], ["_law_m", "_law_some"], topS 44, "_law_odd", hm, hg, F, F.binds (fun _ _ _ _ _ _ us hl => match us, hl with | [_], _ => rfl), sc__law_odd, rfl, rfl, fun k C cdv hcv A outer s H E hs ce => ?_⟩
  have S := sc__law_odd
  exact blk_cons (st_asg 1 S.nd (sim_lst (args_cons (sim_non) (args_cons (sim_int) (args_cons (sim_neg (sim_int)) (args_cons (sim_int) (args_cons (sim_bl) (args_cons (sim_str) (args_cons (sim_str) (args_cons (sim_str) (args_cons (sim_tup (args_nil)) (args_cons (sim_lst (args_nil)) (args_cons (sim_dct0) (args_cons (sim_tup (args_cons (sim_str) (args_nil))) (args_cons (sim_tup (args_cons (sim_str) (args_cons (sim_int) (args_nil)))) (args_cons (sim_tup (args_cons (sim_str) (args_cons (sim_bl) (args_nil)))) (args_cons (sim_tup (args_cons (sim_str) (args_cons (sim_int) (args_nil)))) (args_nil)))))))))))))))))) (blk_cons (st_asg 1 S.nd (sim_add (sim_var 1) (sim_lst (args_cons (sim_tup (args_cons (sim_str) (args_cons (sim_str) (args_nil)))) (args_cons (sim_tup (args_cons (sim_str) (args_cons (sim_str) (args_nil)))) (args_cons (sim_tup (args_cons (sim_str) (args_cons (sim_str) (args_nil)))) (args_cons (sim_tup (args_cons (sim_str) (args_cons (sim_str) (args_nil)))) (args_cons (sim_tup (args_cons (sim_str) (args_cons (sim_str) (args_cons (sim_tup (args_nil)) (args_nil))))) (args_cons (sim_str) (args_nil)))))))))) (blk_cons (st_asg 1 S.nd (sim_add (sim_var 1) (sim_lst (args_cons (sim_tup (args_cons (sim_str) (args_cons (sim_tup (args_cons (sim_str) (args_nil))) (args_nil)))) (args_cons (sim_tup (args_cons (sim_str) (args_cons (sim_tup (args_cons (sim_str) (args_nil))) (args_nil)))) (args_cons (sim_tup (args_cons (sim_str) (args_cons (sim_tup (args_cons (sim_str) (args_nil))) (args_nil)))) (args_cons (sim_tup (args_cons (sim_str) (args_cons (sim_tup (args_nil)) (args_nil)))) (args_cons (sim_tup (args_cons (sim_str) (args_cons (sim_lst (args_nil)) (args_nil)))) (args_nil))))))))) (blk_cons (st_asg 1 S.nd (sim_add (sim_var 1) (sim_lst (args_cons (sim_tup (args_cons (sim_str) (args_cons (sim_tup (args_cons (sim_str) (args_nil))) (args_nil)))) (args_cons (sim_tup (args_cons (sim_int) (args_nil))) (args_cons (sim_tup (args_cons (sim_str) (args_cons (sim_str) (args_cons (sim_tup (args_nil)) (args_cons (sim_tup (args_cons (sim_str) (args_nil))) (args_nil)))))) (args_cons (sim_lst (args_cons (sim_str) (args_nil))) (args_cons (sim_tup (args_cons (sim_str) (args_cons (sim_tup (args_cons (sim_str) (args_nil))) (args_nil)))) (args_cons (sim_str) (args_nil)))))))))) (blk_cons (st_asg 1 S.nd (sim_add (sim_var 1) (sim_lst (args_cons (sim_str) (args_cons (sim_tup (args_cons (sim_str) (args_cons (sim_int) (args_nil)))) (args_cons (sim_tup (args_cons (sim_str) (args_cons (sim_str) (args_nil)))) (args_nil))))))) (blk_cons (st_ret (sim_ix (sim_var 1) (sim_call (hs.call _ _ T__law_draw) hs.room hs.gd hs.tk (args_cons (sim_var 0) (args_cons (sim_blt br_len (args_cons (sim_var 1) (args_nil)) hs.no (by decide +kernel)) (args_nil)))))) (blk_nil))))))

theorem sc__law_spoilt : FnScope ["_law_m", "_law_thing", "_law_way", "_law_spots_here", "_law_spot", "_law_one", "_law_at_here", "_law_some"] ["_law_m", "_law_thing"] (defScope (topS 45)) := ⟨rfl, rfl, rfl, by decide +kernel, rfl, by decide +kernel, by decide +kernel⟩
theorem tie__law_spoilt {w : World} {K : PySem.W.Frag} {mg : Str → Option Value} {base : Heap} {fa : Addr} {fd : FuncData} (gd_MOST_ITEMS : GDct K w mg "MOST_ITEMS" [(("row" : Str), .int 6), (("lot" : Str), .int 4)]) (hg : glA K "_law_spoilt" = some fa) (hm : mg "_law_spoilt" = some (.ref fa)) (F : Fun K "_law_spoilt" "_law_spoilt" (topS 45) fa fd) : Tied prog w K mg base T G bs "_law_spoilt" f__law_spoilt := by
  refine ⟨fa, fd, ["_law_m", "_law_thing"], ["_law_m", "_law_thing", "_law_way", "_law_spots_here", "_law_spot", "_law_one", "_law_at_here", "_law_some"], topS 45, "_law_spoilt", hm, hg, F, F.binds (fun _ _ _ _ _ _ us hl => match us, hl with | [_, _], _ => rfl), sc__law_spoilt, rfl, rfl, fun k C cdv hcv A outer s H E hs ce => ?_⟩
  have S := sc__law_spoilt
  exact blk_cons (st_par 2 3 rfl S.nd (args_cons (sim_call (hs.call _ _ T__law_draw) hs.room hs.gd hs.tk (args_cons (sim_var 0) (args_cons (sim_int) (args_nil)))) (args_cons (sim_call (hs.call _ _ T__law_spots) hs.room hs.gd hs.tk (args_cons (sim_var 1) (args_cons (sim_lst (args_nil)) (args_nil)))) (args_nil))) (by rfl)) (blk_cons (st_asg 4 S.nd (sim_ix (sim_var 3) (sim_call (hs.call _ _ T__law_draw) hs.room hs.gd hs.tk (args_cons (sim_var 0) (args_cons (sim_blt br_len (args_cons (sim_var 3) (args_nil)) hs.no (by decide +kernel)) (args_nil)))))) (blk_cons (st_asg 5 S.nd (sim_call (hs.call _ _ T__law_at) hs.room hs.gd hs.tk (args_cons (sim_var 1) (args_cons (sim_var 4) (args_nil))))) (blk_cons (st_if ((tst_or (tst_cmp (cr_eq hs.hu64) (sim_var 2) (sim_int)) (tst_last (tst_not (tst_val (sim_isi .tuple (sim_var 5) hs.no hs.no))))).pt) (blk_cons (st_ret (sim_call (hs.call _ _ T__law_put) hs.room hs.gd hs.tk (args_cons (sim_var 1) (args_cons (sim_var 4) (args_cons (sim_call (hs.call _ _ T__law_odd) hs.room hs.gd hs.tk (args_cons (sim_var 0) (args_nil))) (args_nil)))))) (blk_nil)) (blk_nil)) (blk_cons (st_asg 6 S.nd (sim_call (hs.call _ _ T__law_draw) hs.room hs.gd hs.tk (args_cons (sim_var 0) (args_cons (sim_add (sim_blt br_len (args_cons (sim_var 5) (args_nil)) hs.no (by decide +kernel)) (sim_int)) (args_nil))))) (blk_cons (st_asg 7 S.nd (sim_lst (args_cons (sim_add (sim_sl (sim_var 5) part_no (part_some (sim_var 6))) (sim_sl (sim_var 5) (part_some (sim_add (sim_var 6) (sim_int))) part_no)) (args_cons (sim_add (sim_add (sim_sl (sim_var 5) part_no (part_some (sim_var 6))) (sim_sl (sim_sl (sim_var 5) part_no (part_some (sim_var 6))) (part_some (sim_neg (sim_int))) part_no)) (sim_sl (sim_var 5) (part_some (sim_var 6)) part_no)) (args_cons (sim_rev (sim_var 5)) (args_cons (sim_bltT br_list (args_cons (sim_var 5) (args_nil)) hs.no (by decide +kernel)) (args_nil))))))) (blk_cons (st_ret (sim_call (hs.call _ _ T__law_put) hs.room hs.gd hs.tk (args_cons (sim_var 1) (args_cons (sim_var 4) (args_cons (sim_ix (sim_add (sim_var 7) (sim_lst (args_cons (sim_add (sim_var 5) (sim_tup (args_cons (sim_tup (args_cons (sim_str) (args_nil))) (args_nil)))) (args_nil)))) (sim_call (hs.call _ _ T__law_draw) hs.room hs.gd hs.tk (args_cons (sim_var 0) (args_cons (sim_int) (args_nil))))) (args_nil)))))) (blk_nil)))))))

theorem sc__law_truths : FnScope ["_law_thing", "_law_one"] ["_law_thing"] (defScope (topS 46)) := ⟨rfl, rfl, rfl, by decide +kernel, rfl, by decide +kernel, by decide +kernel⟩
theorem tie__law_truths {w : World} {K : PySem.W.Frag} {mg : Str → Option Value} {base : Heap} {fa : Addr} {fd : FuncData} (gd_MOST_ITEMS : GDct K w mg "MOST_ITEMS" [(("row" : Str), .int 6), (("lot" : Str), .int 4)]) (hg : glA K "_law_truths" = some fa) (hm : mg "_law_truths" = some (.ref fa)) (F : Fun K "_law_truths" "_law_truths" (topS 46) fa fd) : Tied prog w K mg base T G bs "_law_truths" f__law_truths := by
  refine ⟨fa, fd, ["_law_thing"], ["_law_thing", "_law_one"], topS 46, "_law_truths", hm, hg, F, F.binds (fun _ _ _ _ _ _ us hl => match us, hl with | [_], _ => rfl), sc__law_truths, rfl, rfl, fun k C cdv hcv A outer s H E hs ce => ?_⟩
  have S := sc__law_truths
  exact blk_cons (st_if (tst_val (sim_isi .tuple (sim_var 0) hs.no hs.no)) (blk_cons (st_ret (sim_bltT br_tuple (args_cons (sim_comp [("_law_one", 1)] rfl S.nd (it_seq (sim_var 0)) (by first | (show blkC ["_law_thing", "_law_one"] (defScope (topS 46)) _ _ = true; decide +kernel) | rfl) (by decide +kernel) (fun _ _ _ _ _ => tg_name 1 S.nd) (fun _ _ _ _ _ => tsts_no) (fun _ _ _ _ _ => sim_call ((hs.blk _ _ _ _ _).call _ _ T__law_truths) (hs.blk _ _ _ _ _).room (hs.blk _ _ _ _ _).gd (hs.blk _ _ _ _ _).tk (args_cons (sim_var 1) (args_nil)))) (args_nil)) hs.no (by decide +kernel))) (blk_nil)) (blk_nil)) (blk_cons (st_ret (sim_ite ((tst_and (tst_val (sim_isi .int (sim_var 0) hs.no hs.no)) (tst_last (tst_cmp (cr_in hs.hu65) (sim_var 0) (sim_tup (args_cons (sim_int) (args_cons (sim_int) (args_nil))))))).pt) (sim_cmp (cr_eq hs.hu64) (sim_var 0) (sim_int)) (sim_var 0))) (blk_nil))

theorem sc__law_known : FnScope ["_law_w", "_law_one"] ["_law_w"] (defScope (topS 47)) := ⟨rfl, rfl, rfl, by decide +kernel, rfl, by decide +kernel, by decide +kernel⟩
theorem tie__law_known {w : World} {K : PySem.W.Frag} {mg : Str → Option Value} {base : Heap} {fa : Addr} {fd : FuncData} (gd_MOST_ITEMS : GDct K w mg "MOST_ITEMS" [(("row" : Str), .int 6), (("lot" : Str), .int 4)]) (hg : glA K "_law_known" = some fa) (hm : mg "_law_known" = some (.ref fa)) (F : Fun K "_law_known" "_law_known" (topS 47) fa fd) : Tied prog w K mg base T G bs "_law_known" f__law_known := by
  refine ⟨fa, fd, ["_law_w"], ["_law_w", "_law_one"], topS 47, "_law_known", hm, hg, F, F.binds (fun _ _ _ _ _ _ us hl => match us, hl with | [_], _ => rfl), sc__law_known, rfl, rfl, fun k C cdv hcv A outer s H E hs ce => ?_⟩
  have S := sc__law_known
  exact blk_cons (st_asg 1 S.nd (sim_tup (args_cons (sim_str) (args_nil)))) (blk_cons (st_ret (sim_lst (args_cons (sim_tup (args_cons (sim_str) (args_cons (sim_ix (sim_var 0) (sim_int)) (args_cons (sim_tup (args_cons (sim_var 1) (args_nil))) (args_nil))))) (args_cons (sim_tup (args_cons (sim_str) (args_cons (sim_ix (sim_var 0) (sim_int)) (args_nil)))) (args_cons (sim_tup (args_cons (sim_str) (args_cons (sim_ix (sim_var 0) (sim_int)) (args_cons (sim_tup (args_nil)) (args_nil))))) (args_cons (sim_tup (args_cons (sim_str) (args_cons (sim_ix (sim_var 0) (sim_int)) (args_cons (sim_tup (args_cons (sim_var 1) (args_cons (sim_var 1) (args_nil)))) (args_nil))))) (args_cons (sim_tup (args_cons (sim_str) (args_cons (sim_ix (sim_var 0) (sim_int)) (args_nil)))) (args_nil)))))))) (blk_nil))

theorem sc__law_wrapped : FnScope ["_law_m", "_law_pattern_here", "_law_many", "_law_turn", "_law_some"] ["_law_m", "_law_pattern_here", "_law_many"] (defScope (topS 48)) := ⟨rfl, rfl, rfl, by decide +kernel, rfl, by decide +kernel, by decide +kernel⟩
theorem tie__law_wrapped {w : World} {K : PySem.W.Frag} {mg : Str → Option Value} {base : Heap} {fa : Addr} {fd : FuncData} (gd_MOST_ITEMS : GDct K w mg "MOST_ITEMS" [(("row" : Str), .int 6), (("lot" : Str), .int 4)]) (hg : glA K "_law_wrapped" = some fa) (hm : mg "_law_wrapped" = some (.ref fa)) (F : Fun K "_law_wrapped" "_law_wrapped" (topS 48) fa fd) : Tied prog w K mg base T G bs "_law_wrapped" f__law_wrapped := by
  refine ⟨fa, fd, ["_law_m", "_law_pattern_here", "_law_many"], ["_law_m", "_law_pattern_here", "_law_many", "_law_turn", "_law_some"], topS 48, "_law_wrapped", hm, hg, F, F.binds (fun _ _ _ _ _ _ us hl => match us, hl with | [_, _, _], _ => rfl), sc__law_wrapped, rfl, rfl, fun k C cdv hcv A outer s H E hs ce => ?_⟩
  have S := sc__law_wrapped
  exact blk_cons (st_for (passes_of rfl) rfl (it_rng1 hs.no (sim_var 2)) (tg_name 3 S.nd) (blk_cons (st_asg 4 S.nd (sim_lst (args_cons (sim_tup (args_cons (sim_str) (args_cons (sim_var 1) (args_nil)))) (args_cons (sim_tup (args_cons (sim_str) (args_cons (sim_var 1) (args_nil)))) (args_cons (sim_tup (args_cons (sim_str) (args_cons (sim_var 1) (args_nil)))) (args_cons (sim_tup (args_cons (sim_str) (args_cons (sim_var 1) (args_nil)))) (args_nil))))))) (blk_cons (st_asg 4 S.nd (sim_add (sim_var 4) (sim_lst (args_cons (sim_tup (args_cons (sim_str) (args_cons (sim_var 1) (args_cons (sim_tup (args_cons (sim_str) (args_nil))) (args_nil))))) (args_cons (sim_tup (args_cons (sim_str) (args_cons (sim_tup (args_cons (sim_str) (args_cons (sim_tup (args_nil)) (args_nil)))) (args_cons (sim_var 1) (args_nil))))) (args_cons (sim_tup (args_cons (sim_str) (args_cons (sim_tup (args_cons (sim_tup (args_cons (sim_str) (args_cons (sim_var 1) (args_nil)))) (args_nil))) (args_nil)))) (args_nil))))))) (blk_cons (st_asg 4 S.nd (sim_add (sim_var 4) (sim_lst (args_cons (sim_tup (args_cons (sim_str) (args_cons (sim_tup (args_cons (sim_tup (args_cons (sim_str) (args_cons (sim_var 1) (args_nil)))) (args_nil))) (args_nil)))) (args_cons (sim_tup (args_cons (sim_str) (args_cons (sim_tup (args_cons (sim_tup (args_cons (sim_str) (args_cons (sim_var 1) (args_nil)))) (args_nil))) (args_nil)))) (args_cons (sim_tup (args_cons (sim_str) (args_cons (sim_tup (args_cons (sim_tup (args_cons (sim_str) (args_cons (sim_var 1) (args_nil)))) (args_nil))) (args_nil)))) (args_nil))))))) (blk_cons (st_asg 1 S.nd (sim_ix (sim_add (sim_var 4) (sim_lst (args_cons (sim_tup (args_cons (sim_str) (args_cons (sim_str) (args_cons (sim_tup (args_cons (sim_tup (args_cons (sim_str) (args_nil))) (args_cons (sim_var 1) (args_nil)))) (args_nil))))) (args_nil)))) (sim_call (hs.call _ _ T__law_draw) hs.room hs.gd hs.tk (args_cons (sim_var 0) (args_cons (sim_int) (args_nil)))))) (blk_nil)))))) (blk_cons (st_ret (sim_var 1)) (blk_nil))

theorem sc__law_worths : FnScope ["_law_deep", "_law_flat", "_law_turn", "_law_row_here", "_law_size_here", "_law_found"] [] (defScope (topS 49)) := ⟨rfl, rfl, rfl, by decide +kernel, rfl, by decide +kernel, by decide +kernel⟩
theorem tie__law_worths {w : World} {K : PySem.W.Frag} {mg : Str → Option Value} {base : Heap} {fa : Addr} {fd : FuncData} (gd_MOST_ITEMS : GDct K w mg "MOST_ITEMS" [(("row" : Str), .int 6), (("lot" : Str), .int 4)]) (hg : glA K "_law_worths" = some fa) (hm : mg "_law_worths" = some (.ref fa)) (F : Fun K "_law_worths" "_law_worths" (topS 49) fa fd) : Tied prog w K mg base T G bs "_law_worths" f__law_worths := by
  refine ⟨fa, fd, [], ["_law_deep", "_law_flat", "_law_turn", "_law_row_here", "_law_size_here", "_law_found"], topS 49, "_law_worths", hm, hg, F, F.binds (fun _ _ _ _ _ _ us hl => match us, hl with | [], _ => rfl), sc__law_worths, rfl, rfl, fun k C cdv hcv A outer s H E hs ce => ?_⟩
  have S := sc__law_worths
  exact blk_cons (st_asgs rfl (sim_tup (args_cons (sim_int) (args_cons (sim_tup (args_nil)) (args_nil)))) (tgs_cons 0 S.nd (tgs_cons 1 S.nd (tgs_nil)))) (blk_cons (st_for (passes_of rfl) rfl (it_rng1 hs.no (sim_int)) (tg_name 2 S.nd) (blk_cons (st_par 0 1 rfl S.nd (args_cons (sim_tup (args_cons (sim_var 0) (args_nil))) (args_cons (sim_tup (args_cons (sim_var 1) (args_nil))) (args_nil))) (by rfl)) (blk_nil))) (blk_cons (st_asg 3 S.nd (sim_mul (sim_tup (args_cons (sim_int) (args_nil))) (sim_int))) (blk_cons (st_asg 4 S.nd (sim_add (sim_mul (sim_tup (args_cons (sim_var 3) (args_nil))) (sim_int)) (sim_mul (sim_tup (args_cons (sim_int) (args_nil))) (sim_int)))) (blk_cons (st_asg 5 S.nd (sim_lst (args_cons (sim_tup (args_cons (sim_int) (args_cons (sim_bl) (args_nil)))) (args_cons (sim_tup (args_cons (sim_int) (args_cons (sim_bl) (args_nil)))) (args_cons (sim_tup (args_cons (sim_int) (args_cons (sim_bl) (args_nil)))) (args_cons (sim_tup (args_cons (sim_neg (sim_int)) (args_cons (sim_bl) (args_nil)))) (args_cons (sim_tup (args_cons (sim_var 0) (args_cons (sim_bl) (args_nil)))) (args_cons (sim_tup (args_cons (sim_tup (args_cons (sim_var 0) (args_nil))) (args_cons (sim_bl) (args_nil)))) (args_cons (sim_tup (args_cons (sim_var 1) (args_cons (sim_bl) (args_nil)))) (args_nil)))))))))) (blk_cons (st_asg 5 S.nd (sim_add (sim_var 5) (sim_lst (args_cons (sim_tup (args_cons (sim_tup (args_cons (sim_var 1) (args_nil))) (args_cons (sim_bl) (args_nil)))) (args_cons (sim_tup (args_cons (sim_var 3) (args_cons (sim_bl) (args_nil)))) (args_cons (sim_tup (args_cons (sim_add (sim_var 3) (sim_tup (args_cons (sim_int) (args_nil)))) (args_cons (sim_bl) (args_nil)))) (args_cons (sim_tup (args_cons (sim_var 4) (args_cons (sim_bl) (args_nil)))) (args_cons (sim_tup (args_cons (sim_add (sim_var 4) (sim_tup (args_cons (sim_int) (args_nil)))) (args_cons (sim_bl) (args_nil)))) (args_nil))))))))) (blk_cons (st_ret (sim_add (sim_var 5) (sim_lst (args_cons (sim_tup (args_cons (sim_str) (args_cons (sim_bl) (args_nil)))) (args_cons (sim_tup (args_cons (sim_non) (args_cons (sim_bl) (args_nil)))) (args_cons (sim_tup (args_cons (sim_lst (args_cons (sim_int) (args_nil))) (args_cons (sim_bl) (args_nil)))) (args_cons (sim_tup (args_cons (sim_tup (args_cons (sim_lst (args_nil)) (args_nil))) (args_cons (sim_bl) (args_nil)))) (args_cons (sim_tup (args_cons (sim_bl) (args_cons (sim_bl) (args_nil)))) (args_cons (sim_tup (args_cons (sim_tup (args_cons (sim_int) (args_cons (sim_bl) (args_nil)))) (args_cons (sim_bl) (args_nil)))) (args_nil)))))))))) (blk_nil)))))))

theorem sc__law_names : FnScope ["_law_some", "_law_bars", "_law_bar"] [] (defScope (topS 50)) := ⟨rfl, rfl, rfl, by decide +kernel, rfl, by decide +kernel, by decide +kernel⟩
theorem tie__law_names {w : World} {K : PySem.W.Frag} {mg : Str → Option Value} {base : Heap} {fa : Addr} {fd : FuncData} (gd_MOST_ITEMS : GDct K w mg "MOST_ITEMS" [(("row" : Str), .int 6), (("lot" : Str), .int 4)]) (hg : glA K "_law_names" = some fa) (hm : mg "_law_names" = some (.ref fa)) (F : Fun K "_law_names" "_law_names" (topS 50) fa fd) : Tied prog w K mg base T G bs "_law_names" f__law_names := by
  refine ⟨fa, fd, [], ["_law_some", "_law_bars", "_law_bar"], topS 50, "_law_names", hm, hg, F, F.binds (fun _ _ _ _ _ _ us hl => match us, hl with | [], _ => rfl), sc__law_names, rfl, rfl, fun k C cdv hcv A outer s H E hs ce => ?_⟩
  have S := sc__law_names
  exact blk_cons (st_asg 0 S.nd (sim_lst (args_cons (sim_tup (args_cons (sim_str) (args_cons (sim_bl) (args_nil)))) (args_cons (sim_tup (args_cons (sim_str) (args_cons (sim_bl) (args_nil)))) (args_cons (sim_tup (args_cons (sim_str) (args_cons (sim_bl) (args_nil)))) (args_cons (sim_tup (args_cons (sim_str) (args_cons (sim_bl) (args_nil)))) (args_cons (sim_tup (args_cons (sim_str) (args_cons (sim_bl) (args_nil)))) (args_cons (sim_tup (args_cons (sim_str) (args_cons (sim_bl) (args_nil)))) (args_nil))))))))) (blk_cons (st_asg 0 S.nd (sim_add (sim_var 0) (sim_lst (args_cons (sim_tup (args_cons (sim_str) (args_cons (sim_bl) (args_nil)))) (args_cons (sim_tup (args_cons (sim_str) (args_cons (sim_bl) (args_nil)))) (args_cons (sim_tup (args_cons (sim_str) (args_cons (sim_bl) (args_nil)))) (args_cons (sim_tup (args_cons (sim_str) (args_cons (sim_bl) (args_nil)))) (args_cons (sim_tup (args_cons (sim_non) (args_cons (sim_bl) (args_nil)))) (args_cons (sim_tup (args_cons (sim_tup (args_cons (sim_str) (args_nil))) (args_cons (sim_bl) (args_nil)))) (args_nil)))))))))) (blk_cons (st_asg 1 S.nd (sim_str)) (blk_cons (st_ret (sim_add (sim_add (sim_var 0) (sim_lst (args_cons (sim_tup (args_cons (sim_int) (args_cons (sim_bl) (args_nil)))) (args_cons (sim_tup (args_cons (sim_lst (args_cons (sim_str) (args_nil))) (args_cons (sim_bl) (args_nil)))) (args_nil))))) (sim_comp [("_law_bar", 2)] rfl S.nd (it_seq (sim_split (sim_var 1) (sim_str))) (by first | (show blkC ["_law_some", "_law_bars", "_law_bar"] (defScope (topS 50)) _ _ = true; decide +kernel) | rfl) (by decide +kernel) (fun _ _ _ _ _ => tg_name 2 S.nd) (fun _ _ _ _ _ => tsts_no) (fun _ _ _ _ _ => sim_tup (args_cons (sim_var 2) (args_cons (sim_bl) (args_nil))))))) (blk_nil))))

theorem sc__law_bounds : FnScope ["_law_m", "_law_one", "_law_sort", "_law_six", "_law_lot", "_law_whole", "_law_found", "_law_worth", "_law_good", "_law_wide", "_law_some", "_law_word", "_law_thing"] ["_law_m"] (defScope (topS 51)) := ⟨rfl, rfl, rfl, by decide +kernel, rfl, by decide +kernel, by decide +kernel⟩
theorem tie__law_bounds {w : World} {K : PySem.W.Frag} {mg : Str → Option Value} {base : Heap} {fa : Addr} {fd : FuncData} (gd_MOST_ITEMS : GDct K w mg "MOST_ITEMS" [(("row" : Str), .int 6), (("lot" : Str), .int 4)]) (hg : glA K "_law_bounds" = some fa) (hm : mg "_law_bounds" = some (.ref fa)) (F : Fun K "_law_bounds" "_law_bounds" (topS 51) fa fd) : Tied prog w K mg base T G bs "_law_bounds" f__law_bounds := by
  refine ⟨fa, fd, ["_law_m"], ["_law_m", "_law_one", "_law_sort", "_law_six", "_law_lot", "_law_whole", "_law_found", "_law_worth", "_law_good", "_law_wide", "_law_some", "_law_word", "_law_thing"], topS 51, "_law_bounds", hm, hg, F, F.binds (fun _ _ _ _ _ _ us hl => match us, hl with | [_], _ => rfl), sc__law_bounds, rfl, rfl, fun k C cdv hcv A outer s H E hs ce => ?_⟩
  have S := sc__law_bounds
  exact blk_cons (st_par 1 2 rfl S.nd (args_cons (sim_tup (args_cons (sim_str) (args_nil))) (args_cons (sim_call (hs.call _ _ T__law_draw) hs.room hs.gd hs.tk (args_cons (sim_var 0) (args_cons (sim_int) (args_nil)))) (args_nil))) (by rfl)) (blk_cons (st_par 3 4 rfl S.nd (args_cons (sim_mul (sim_tup (args_cons (sim_tup (args_cons (sim_str) (args_cons (sim_var 1) (args_nil)))) (args_nil))) (sim_int)) (args_cons (sim_mul (sim_tup (args_cons (sim_tup (args_cons (sim_str) (args_cons (sim_var 1) (args_nil)))) (args_nil))) (sim_int)) (args_nil))) (by rfl)) (blk_cons (st_asg 5 S.nd (sim_tup (args_cons (sim_str) (args_cons (sim_tup (args_cons (sim_str) (args_cons (sim_tup (args_cons (sim_str) (args_cons (sim_tup (args_cons (sim_str) (args_cons (sim_add (sim_mul (sim_tup (args_cons (sim_tup (args_cons (sim_str) (args_cons (sim_tup (args_cons (sim_str) (args_cons (sim_var 3) (args_nil)))) (args_nil)))) (args_nil))) (sim_int)) (sim_tup (args_cons (sim_tup (args_cons (sim_str) (args_cons (sim_var 1) (args_nil)))) (args_nil)))) (args_nil)))) (args_nil)))) (args_nil)))) (args_nil))))) (blk_cons (st_own 6 S.nd (sim_lst (args_cons (sim_tup (args_cons (sim_call (hs.call _ _ T__law_wrapped) hs.room hs.gd hs.tk (args_cons (sim_var 0) (args_cons (sim_var 1) (args_cons (sim_int) (args_nil))))) (args_cons (sim_bl) (args_nil)))) (args_cons (sim_tup (args_cons (sim_call (hs.call _ _ T__law_wrapped) hs.room hs.gd hs.tk (args_cons (sim_var 0) (args_cons (sim_var 1) (args_cons (sim_int) (args_nil))))) (args_cons (sim_bl) (args_nil)))) (args_cons (sim_tup (args_cons (sim_var 5) (args_cons (sim_bl) (args_nil)))) (args_nil)))))) (blk_cons (st_own 6 S.nd (sim_add (sim_var 6) (sim_lst (args_cons (sim_tup (args_cons (sim_tup (args_cons (sim_str) (args_cons (sim_var 5) (args_nil)))) (args_cons (sim_bl) (args_nil)))) (args_cons (sim_tup (args_cons (sim_tup (args_cons (sim_str) (args_cons (sim_add (sim_var 3) (sim_tup (args_cons (sim_tup (args_cons (sim_str) (args_cons (sim_var 1) (args_nil)))) (args_nil)))) (args_nil)))) (args_cons (sim_bl) (args_nil)))) (args_cons (sim_tup (args_cons (sim_tup (args_cons (sim_str) (args_cons (sim_var 4) (args_nil)))) (args_cons (sim_bl) (args_nil)))) (args_nil))))))) (blk_cons (st_own 6 S.nd (sim_add (sim_var 6) (sim_lst (args_cons (sim_tup (args_cons (sim_tup (args_cons (sim_str) (args_cons (sim_add (sim_var 4) (sim_tup (args_cons (sim_tup (args_cons (sim_str) (args_cons (sim_var 1) (args_nil)))) (args_nil)))) (args_nil)))) (args_cons (sim_bl) (args_nil)))) (args_cons (sim_tup (args_cons (sim_tup (args_cons (sim_str) (args_cons (sim_add (sim_sl (sim_var 4) part_no (part_some (sim_int))) (sim_tup (args_cons (sim_tup (args_cons (sim_str) (args_cons (sim_var 1) (args_nil)))) (args_nil)))) (args_nil)))) (args_cons (sim_bl) (args_nil)))) (args_nil)))))) (blk_cons (st_own 6 S.nd (sim_add (sim_var 6) (sim_lst (args_cons (sim_tup (args_cons (sim_tup (args_cons (sim_str) (args_cons (sim_add (sim_tup (args_cons (sim_tup (args_cons (sim_str) (args_cons (sim_var 1) (args_nil)))) (args_nil))) (sim_sl (sim_var 4) part_no (part_some (sim_int)))) (args_nil)))) (args_cons (sim_bl) (args_nil)))) (args_cons (sim_tup (args_cons (sim_tup (args_cons (sim_str) (args_cons (sim_tup (args_cons (sim_tup (args_cons (sim_str) (args_cons (sim_var 1) (args_nil)))) (args_nil))) (args_nil)))) (args_cons (sim_bl) (args_nil)))) (args_nil)))))) (blk_cons (st_own 6 S.nd (sim_add (sim_var 6) (sim_lst (args_cons (sim_tup (args_cons (sim_tup (args_cons (sim_str) (args_cons (sim_tup (args_cons (sim_tup (args_cons (sim_str) (args_cons (sim_var 1) (args_nil)))) (args_nil))) (args_nil)))) (args_cons (sim_bl) (args_nil)))) (args_cons (sim_tup (args_cons (sim_tup (args_cons (sim_str) (args_cons (sim_str) (args_cons (sim_tup (args_cons (sim_var 1) (args_cons (sim_var 1) (args_nil)))) (args_nil))))) (args_cons (sim_bl) (args_nil)))) (args_cons (sim_tup (args_cons (sim_tup (args_cons (sim_str) (args_cons (sim_tup (args_nil)) (args_nil)))) (args_cons (sim_bl) (args_nil)))) (args_nil))))))) (blk_cons (st_own 6 S.nd (sim_add (sim_var 6) (sim_lst (args_cons (sim_tup (args_cons (sim_tup (args_cons (sim_str) (args_cons (sim_str) (args_cons (sim_mul (sim_tup (args_cons (sim_var 1) (args_nil))) (sim_int)) (args_nil))))) (args_cons (sim_bl) (args_nil)))) (args_cons (sim_tup (args_cons (sim_tup (args_cons (sim_str) (args_cons (sim_str) (args_cons (sim_tup (args_nil)) (args_nil))))) (args_cons (sim_bl) (args_nil)))) (args_cons (sim_tup (args_cons (sim_tup (args_cons (sim_str) (args_cons (sim_tup (args_nil)) (args_nil)))) (args_cons (sim_bl) (args_nil)))) (args_nil))))))) (blk_cons (st_own 6 S.nd (sim_add (sim_var 6) (sim_lst (args_cons (sim_tup (args_cons (sim_tup (args_cons (sim_str) (args_cons (sim_var 3) (args_nil)))) (args_cons (sim_bl) (args_nil)))) (args_cons (sim_tup (args_cons (sim_tup (args_nil)) (args_cons (sim_bl) (args_nil)))) (args_nil)))))) (blk_cons (st_for (passes_of rfl) rfl (it_seq (sim_call0 (hs.call _ _ T__law_worths) hs.room hs.gd hs.tk)) (tg_tup rfl (tgs_cons 7 S.nd (tgs_cons 8 S.nd (tgs_nil)))) (blk_cons (st_asg 9 S.nd (sim_tup (args_cons (sim_str) (args_cons (sim_add (sim_mul (sim_tup (args_cons (sim_tup (args_cons (sim_str) (args_cons (sim_tup (args_cons (sim_str) (args_cons (sim_var 3) (args_nil)))) (args_nil)))) (args_nil))) (sim_int)) (sim_tup (args_cons (sim_tup (args_cons (sim_str) (args_cons (sim_tup (args_cons (sim_str) (args_cons (sim_var 7) (args_nil)))) (args_nil)))) (args_nil)))) (args_nil))))) (blk_cons (st_asg 10 S.nd (sim_lst (args_cons (sim_tup (args_cons (sim_str) (args_cons (sim_var 7) (args_nil)))) (args_cons (sim_call (hs.call _ _ T__law_wrapped) hs.room hs.gd hs.tk (args_cons (sim_var 0) (args_cons (sim_tup (args_cons (sim_str) (args_cons (sim_var 7) (args_nil)))) (args_cons (sim_int) (args_nil))))) (args_cons (sim_tup (args_cons (sim_str) (args_cons (sim_tup (args_cons (sim_str) (args_cons (sim_tup (args_cons (sim_str) (args_cons (sim_var 9) (args_nil)))) (args_nil)))) (args_nil)))) (args_nil)))))) (blk_cons (st_own 6 S.nd (sim_add (sim_var 6) (sim_comp [("_law_thing", 12)] rfl S.nd (it_seq (sim_var 10)) (by first | (show blkC ["_law_m", "_law_one", "_law_sort", "_law_six", "_law_lot", "_law_whole", "_law_found", "_law_worth", "_law_good", "_law_wide", "_law_some", "_law_word", "_law_thing"] (defScope (topS 51)) _ _ = true; decide +kernel) | rfl) (by decide +kernel) (fun _ _ _ _ _ => tg_name 12 S.nd) (fun _ _ _ _ _ => tsts_no) (fun _ _ _ _ _ => sim_tup (args_cons (sim_var 12) (args_cons (sim_var 8) (args_nil))))))) (blk_nil))))) (blk_cons (st_for (passes_of rfl) rfl (it_seq (sim_call0 (hs.call _ _ T__law_names) hs.room hs.gd hs.tk)) (tg_tup rfl (tgs_cons 11 S.nd (tgs_cons 8 S.nd (tgs_nil)))) (blk_cons (st_app 6 (sim_tup (args_cons (sim_ix (sim_lst (args_cons (sim_tup (args_cons (sim_str) (args_cons (sim_var 11) (args_nil)))) (args_cons (sim_tup (args_cons (sim_str) (args_cons (sim_var 11) (args_nil)))) (args_cons (sim_tup (args_cons (sim_str) (args_cons (sim_var 11) (args_cons (sim_tup (args_nil)) (args_nil))))) (args_nil))))) (sim_var 2)) (args_cons (sim_var 8) (args_nil)))) (pv 6)) (blk_nil))) (blk_cons (st_retV 6 (pv 6)) (blk_nil)))))))))))))

theorem sc_law : FnScope ["_law_script", "_law_m", "_law_far", "_law_turn", "_law_w", "_law_pattern_here", "_law_bent", "_law_thing", "_law_shape", "_law_good"] ["_law_script"] (defScope (topS 52)) := ⟨rfl, rfl, rfl, by decide +kernel, rfl, by decide +kernel, by decide +kernel⟩
theorem tie_law {w : World} {K : PySem.W.Frag} {mg : Str → Option Value} {base : Heap} {fa : Addr} {fd : FuncData} (gd_MOST_ITEMS : GDct K w mg "MOST_ITEMS" [(("row" : Str), .int 6), (("lot" : Str), .int 4)]) (hg : glA K "law" = some fa) (hm : mg "law" = some (.ref fa)) (F : Fun K "law" "law" (topS 52) fa fd) : Tied prog w K mg base T G bs "law" f_law := by
  refine ⟨fa, fd, ["_law_script"], ["_law_script", "_law_m", "_law_far", "_law_turn", "_law_w", "_law_pattern_here", "_law_bent", "_law_thing", "_law_shape", "_law_good"], topS 52, "law", hm, hg, F, F.binds (fun _ _ _ _ _ _ us hl => match us, hl with | [_], _ => rfl), sc_law, rfl, rfl, fun k C cdv hcv A outer s H E hs ce => ?_⟩
  have S := sc_law
  exact blk_cons (st_asg 1 S.nd (sim_call (hs.call _ _ T__law_begun) hs.room hs.gd hs.tk (args_cons (sim_var 0) (args_nil)))) (blk_cons (st_if (tst_cmp (cr_ne hs.hu64) (sim_comp [("_law_thing", 7), ("_law_good", 9)] rfl S.nd (it_seq (sim_call (hs.call _ _ T__law_bounds) hs.room hs.gd hs.tk (args_cons (sim_var 1) (args_nil)))) (by first | (show blkC ["_law_script", "_law_m", "_law_far", "_law_turn", "_law_w", "_law_pattern_here", "_law_bent", "_law_thing", "_law_shape", "_law_good"] (defScope (topS 52)) _ _ = true; decide +kernel) | rfl) (by decide +kernel) (fun _ _ _ _ _ => tg_tup rfl (tgs_cons 7 S.nd (tgs_cons 9 S.nd (tgs_nil)))) (fun _ _ _ _ _ => tsts_one (tst_cmp (cr_ne (hs.blk _ _ _ _ _).hu64) (sim_blt (br_repr (hs.blk _ _ _ _ _).hu (hs.blk _ _ _ _ _).gd) (args_cons (sim_call ((hs.blk _ _ _ _ _).call _ _ T_is_pattern) (hs.blk _ _ _ _ _).room (hs.blk _ _ _ _ _).gd (hs.blk _ _ _ _ _).tk (args_cons (sim_var 7) (args_nil))) (args_nil)) (hs.blk _ _ _ _ _).no (by decide +kernel)) (sim_blt (br_repr (hs.blk _ _ _ _ _).hu (hs.blk _ _ _ _ _).gd) (args_cons (sim_var 9) (args_nil)) (hs.blk _ _ _ _ _).no (by decide +kernel)))) (fun _ _ _ _ _ => sim_var 7)) (sim_lst (args_nil))) (blk_cons (st_ret (sim_bl)) (blk_nil)) (blk_nil)) (blk_cons (st_asg 2 S.nd (sim_tup (args_cons (sim_str) (args_nil)))) (blk_cons (st_for (passes_of rfl) rfl (it_rng1 hs.no (sim_int)) (tg_name 3 S.nd) (blk_cons (st_asg 2 S.nd (sim_tup (args_cons (sim_str) (args_cons (sim_var 2) (args_nil))))) (blk_nil))) (blk_cons (st_if ((tst_or (tst_cmp cr_isnot (sim_call (hs.call _ _ T_is_pattern) hs.room hs.gd hs.tk (args_cons (sim_var 2) (args_nil))) (sim_bl)) (tst_last (tst_cmp cr_isnot (sim_call (hs.call _ _ T_is_pattern) hs.room hs.gd hs.tk (args_cons (sim_tup (args_cons (sim_str) (args_cons (sim_tup (args_cons (sim_tup (args_cons (sim_str) (args_cons (sim_var 2) (args_nil)))) (args_nil))) (args_nil)))) (args_nil))) (sim_bl)))).pt) (blk_cons (st_ret (sim_bl)) (blk_nil)) (blk_nil)) (blk_cons (st_for (passes_of rfl) rfl (it_rng1 hs.no (sim_add (sim_int) (sim_blt (br_min2 rfl) (args_cons (sim_int) (args_cons (sim_fdiv (sim_blt br_len (args_cons (sim_var 0) (args_nil)) hs.no (by decide +kernel)) (sim_int)) (args_nil))) hs.no (by decide +kernel)))) (tg_name 3 S.nd) (blk_cons (st_asg 4 S.nd (sim_call (hs.call _ _ T__law_words) hs.room hs.gd hs.tk (args_cons (sim_var 1) (args_cons (sim_int) (args_nil))))) (blk_cons (st_asg 5 S.nd (sim_call (hs.call _ _ T__law_pattern) hs.room hs.gd hs.tk (args_cons (sim_var 1) (args_cons (sim_var 4) (args_cons (sim_call (hs.call _ _ T__law_known) hs.room hs.gd hs.tk (args_cons (sim_var 4) (args_nil))) (args_cons (sim_add (sim_int) (sim_call (hs.call _ _ T__law_draw) hs.room hs.gd hs.tk (args_cons (sim_var 1) (args_cons (sim_int) (args_nil))))) (args_cons (sim_promo (sim_lst (args_cons (sim_add (sim_int) (sim_call (hs.call _ _ T__law_draw) hs.room hs.gd hs.tk (args_cons (sim_var 1) (args_cons (sim_int) (args_nil))))) (args_nil)))) (args_nil)))))))) (blk_cons (st_asg 6 S.nd (sim_call (hs.call _ _ T__law_spoilt) hs.room hs.gd hs.tk (args_cons (sim_var 1) (args_cons (sim_var 5) (args_nil))))) (blk_cons (st_for (passes_of rfl) rfl (it_seq (sim_tup (args_cons (sim_var 5) (args_cons (sim_call (hs.call _ _ T__law_truths) hs.room hs.gd hs.tk (args_cons (sim_var 5) (args_nil))) (args_cons (sim_var 6) (args_cons (sim_call (hs.call _ _ T__law_spoilt) hs.room hs.gd hs.tk (args_cons (sim_var 1) (args_cons (sim_var 6) (args_nil)))) (args_cons (sim_var 5) (args_nil)))))))) (tg_name 7 S.nd) (blk_cons (st_asg 8 S.nd (sim_blt (br_repr hs.hu hs.gd) (args_cons (sim_var 7) (args_nil)) hs.no (by decide +kernel))) (blk_cons (st_if ((tst_or (tst_cmp (cr_ne hs.hu64) (sim_blt (br_repr hs.hu hs.gd) (args_cons (sim_call (hs.call _ _ T_is_pattern) hs.room hs.gd hs.tk (args_cons (sim_var 7) (args_nil))) (args_nil)) hs.no (by decide +kernel)) (sim_blt (br_repr hs.hu hs.gd) (args_cons (sim_cmp (cr_lt hs.hu64) (sim_call (hs.call _ _ T__law_parts) hs.room hs.gd hs.tk (args_cons (sim_var 7) (args_cons (sim_int) (args_nil)))) (sim_int)) (args_nil)) hs.no (by decide +kernel))) (tst_last (tst_cmp (cr_ne hs.hu64) (sim_blt (br_repr hs.hu hs.gd) (args_cons (sim_var 7) (args_nil)) hs.no (by decide +kernel)) (sim_var 8)))).pt) (blk_cons (st_ret (sim_bl)) (blk_nil)) (blk_nil)) (blk_nil)))) (blk_nil)))))) (blk_cons (st_ret (sim_bl)) (blk_nil)))))))

theorem all_mk {w : World} {K : PySem.W.Frag} {h : Heap} {mg : Str → Option Value} (X : K.In h) (Gn : h.Ns mainGlobals mg)
  {f0 : Addr} {od0 an0 : Option Addr} {sl0 : Array (Option Value)} {oc0 kV0 dc0 pm0 cd0 ct0 : Value}
  {f1 : Addr} {od1 an1 : Option Addr} {sl1 : Array (Option Value)} {oc1 kV1 dc1 pm1 cd1 ct1 : Value}
  {f2 : Addr} {od2 an2 : Option Addr} {sl2 : Array (Option Value)} {oc2 kV2 dc2 pm2 cd2 ct2 : Value}
  {f3 : Addr} {od3 an3 : Option Addr} {sl3 : Array (Option Value)} {oc3 kV3 dc3 pm3 cd3 ct3 : Value}
  {f4 : Addr} {od4 an4 : Option Addr} {sl4 : Array (Option Value)} {oc4 kV4 dc4 pm4 cd4 ct4 : Value}
  {f5 : Addr} {od5 an5 : Option Addr} {sl5 : Array (Option Value)} {oc5 kV5 dc5 pm5 cd5 ct5 : Value}
  {f6 : Addr} {od6 an6 : Option Addr} {sl6 : Array (Option Value)} {oc6 kV6 dc6 pm6 cd6 ct6 : Value}
  {f7 : Addr} {od7 an7 : Option Addr} {sl7 : Array (Option Value)} {oc7 kV7 dc7 pm7 cd7 ct7 : Value}
  {f8 : Addr} {od8 an8 : Option Addr} {sl8 : Array (Option Value)} {oc8 kV8 dc8 pm8 cd8 ct8 : Value}
  {f9 : Addr} {od9 an9 : Option Addr} {sl9 : Array (Option Value)} {oc9 kV9 dc9 pm9 cd9 ct9 : Value}
  {f10 : Addr} {od10 an10 : Option Addr} {sl10 : Array (Option Value)} {oc10 kV10 dc10 pm10 cd10 ct10 : Value}
  {f11 : Addr} {od11 an11 : Option Addr} {sl11 : Array (Option Value)} {oc11 kV11 dc11 pm11 cd11 ct11 : Value}
  {f12 : Addr} {od12 an12 : Option Addr} {sl12 : Array (Option Value)} {oc12 kV12 dc12 pm12 cd12 ct12 : Value}
  {f13 : Addr} {od13 an13 : Option Addr} {sl13 : Array (Option Value)} {oc13 kV13 dc13 pm13 cd13 ct13 : Value}
  {f14 : Addr} {od14 an14 : Option Addr} {sl14 : Array (Option Value)} {oc14 kV14 dc14 pm14 cd14 ct14 : Value}
  {f15 : Addr} {od15 an15 : Option Addr} {sl15 : Array (Option Value)} {oc15 kV15 dc15 pm15 cd15 ct15 : Value}
  {f16 : Addr} {od16 an16 : Option Addr} {sl16 : Array (Option Value)} {oc16 kV16 dc16 pm16 cd16 ct16 : Value}
  {f17 : Addr} {od17 an17 : Option Addr} {sl17 : Array (Option Value)} {oc17 kV17 dc17 pm17 cd17 ct17 : Value}
  {f18 : Addr} {od18 an18 : Option Addr} {sl18 : Array (Option Value)} {oc18 kV18 dc18 pm18 cd18 ct18 : Value}
  {f19 : Addr} {od19 an19 : Option Addr} {sl19 : Array (Option Value)} {oc19 kV19 dc19 pm19 cd19 ct19 : Value}
  {f20 : Addr} {od20 an20 : Option Addr} {sl20 : Array (Option Value)} {oc20 kV20 dc20 pm20 cd20 ct20 : Value}
  {f21 : Addr} {od21 an21 : Option Addr} {sl21 : Array (Option Value)} {oc21 kV21 dc21 pm21 cd21 ct21 : Value}
  {f22 : Addr} {od22 an22 : Option Addr} {sl22 : Array (Option Value)} {oc22 kV22 dc22 pm22 cd22 ct22 : Value}
  {f23 : Addr} {od23 an23 : Option Addr} {sl23 : Array (Option Value)} {oc23 kV23 dc23 pm23 cd23 ct23 : Value}
  {f24 : Addr} {od24 an24 : Option Addr} {sl24 : Array (Option Value)} {oc24 kV24 dc24 pm24 cd24 ct24 : Value}
  {f25 : Addr} {od25 an25 : Option Addr} {sl25 : Array (Option Value)} {oc25 kV25 dc25 pm25 cd25 ct25 : Value}
  {f26 : Addr} {od26 an26 : Option Addr} {sl26 : Array (Option Value)} {oc26 kV26 dc26 pm26 cd26 ct26 : Value}
  {f27 : Addr} {od27 an27 : Option Addr} {sl27 : Array (Option Value)} {oc27 kV27 dc27 pm27 cd27 ct27 : Value}
  {f28 : Addr} {od28 an28 : Option Addr} {sl28 : Array (Option Value)} {oc28 kV28 dc28 pm28 cd28 ct28 : Value}
  {f29 : Addr} {od29 an29 : Option Addr} {sl29 : Array (Option Value)} {oc29 kV29 dc29 pm29 cd29 ct29 : Value}
  {f30 : Addr} {od30 an30 : Option Addr} {sl30 : Array (Option Value)} {oc30 kV30 dc30 pm30 cd30 ct30 : Value}
  {f31 : Addr} {od31 an31 : Option Addr} {sl31 : Array (Option Value)} {oc31 kV31 dc31 pm31 cd31 ct31 : Value}
  {f32 : Addr} {od32 an32 : Option Addr} {sl32 : Array (Option Value)} {oc32 kV32 dc32 pm32 cd32 ct32 : Value}
  {f33 : Addr} {od33 an33 : Option Addr} {sl33 : Array (Option Value)} {oc33 kV33 dc33 pm33 cd33 ct33 : Value}
  {f34 : Addr} {od34 an34 : Option Addr} {sl34 : Array (Option Value)} {oc34 kV34 dc34 pm34 cd34 ct34 : Value}
  {f35 : Addr} {od35 an35 : Option Addr} {sl35 : Array (Option Value)} {oc35 kV35 dc35 pm35 cd35 ct35 : Value}
  {gv0 : Value}
  {gv1 : Value}
  {gv2 : Value}
  {g3 : Addr} {go3 : Obj}
  {gv4 : Value}
  {gv5 : Value}
  {gv6 : Value}
  {gv7 : Value}
  {gv8 : Value}
  {gv9 : Value}
  {g10 : Addr} {go10 : Obj}
  {g11 : Addr} {go11 : Obj}
  {d0 : Addr} {des0 : Array DictEntry} {dn0 : Nat}
  (a0 : PySem.W.nsIn K mainGlobals "is_whole" = some (some (.ref f0))) (l0 : K.lookup f0 = some ⟨oc0, od0, .func (PySem.W.fnOf "is_whole" "is_whole" (defArgs (topS 5)) (defBody (topS 5)) (defScope (topS 5)) .none kV0 dc0 pm0 an0 cd0 ct0), sl0⟩) (c0 : PySem.W.codeIn K cd0 "is_whole" = true) (k0 : PySem.W.keepIn K (.ref f0) = true)
  (a1 : PySem.W.nsIn K mainGlobals "is_among" = some (some (.ref f1))) (l1 : K.lookup f1 = some ⟨oc1, od1, .func (PySem.W.fnOf "is_among" "is_among" (defArgs (topS 6)) (defBody (topS 6)) (defScope (topS 6)) .none kV1 dc1 pm1 an1 cd1 ct1), sl1⟩) (c1 : PySem.W.codeIn K cd1 "is_among" = true) (k1 : PySem.W.keepIn K (.ref f1) = true)
  (a2 : PySem.W.nsIn K mainGlobals "is_name" = some (some (.ref f2))) (l2 : K.lookup f2 = some ⟨oc2, od2, .func (PySem.W.fnOf "is_name" "is_name" (defArgs (topS 7)) (defBody (topS 7)) (defScope (topS 7)) .none kV2 dc2 pm2 an2 cd2 ct2), sl2⟩) (c2 : PySem.W.codeIn K cd2 "is_name" = true) (k2 : PySem.W.keepIn K (.ref f2) = true)
  (a3 : PySem.W.nsIn K mainGlobals "is_leaf" = some (some (.ref f3))) (l3 : K.lookup f3 = some ⟨oc3, od3, .func (PySem.W.fnOf "is_leaf" "is_leaf" (defArgs (topS 12)) (defBody (topS 12)) (defScope (topS 12)) .none kV3 dc3 pm3 an3 cd3 ct3), sl3⟩) (c3 : PySem.W.codeIn K cd3 "is_leaf" = true) (k3 : PySem.W.keepIn K (.ref f3) = true)
  (a4 : PySem.W.nsIn K mainGlobals "size_within" = some (some (.ref f4))) (l4 : K.lookup f4 = some ⟨oc4, od4, .func (PySem.W.fnOf "size_within" "size_within" (defArgs (topS 13)) (defBody (topS 13)) (defScope (topS 13)) .none kV4 dc4 pm4 an4 cd4 ct4), sl4⟩) (c4 : PySem.W.codeIn K cd4 "size_within" = true) (k4 : PySem.W.keepIn K (.ref f4) = true)
  (a5 : PySem.W.nsIn K mainGlobals "is_worth" = some (some (.ref f5))) (l5 : K.lookup f5 = some ⟨oc5, od5, .func (PySem.W.fnOf "is_worth" "is_worth" (defArgs (topS 14)) (defBody (topS 14)) (defScope (topS 14)) .none kV5 dc5 pm5 an5 cd5 ct5), sl5⟩) (c5 : PySem.W.codeIn K cd5 "is_worth" = true) (k5 : PySem.W.keepIn K (.ref f5) = true)
  (a6 : PySem.W.nsIn K mainGlobals "are_items" = some (some (.ref f6))) (l6 : K.lookup f6 = some ⟨oc6, od6, .func (PySem.W.fnOf "are_items" "are_items" (defArgs (topS 22)) (defBody (topS 22)) (defScope (topS 22)) .none kV6 dc6 pm6 an6 cd6 ct6), sl6⟩) (c6 : PySem.W.codeIn K cd6 "are_items" = true) (k6 : PySem.W.keepIn K (.ref f6) = true)
  (a7 : PySem.W.nsIn K mainGlobals "has_form" = some (some (.ref f7))) (l7 : K.lookup f7 = some ⟨oc7, od7, .func (PySem.W.fnOf "has_form" "has_form" (defArgs (topS 23)) (defBody (topS 23)) (defScope (topS 23)) .none kV7 dc7 pm7 an7 cd7 ct7), sl7⟩) (c7 : PySem.W.codeIn K cd7 "has_form" = true) (k7 : PySem.W.keepIn K (.ref f7) = true)
  (a8 : PySem.W.nsIn K mainGlobals "within" = some (some (.ref f8))) (l8 : K.lookup f8 = some ⟨oc8, od8, .func (PySem.W.fnOf "within" "within" (defArgs (topS 24)) (defBody (topS 24)) (defScope (topS 24)) .none kV8 dc8 pm8 an8 cd8 ct8), sl8⟩) (c8 : PySem.W.codeIn K cd8 "within" = true) (k8 : PySem.W.keepIn K (.ref f8) = true)
  (a9 : PySem.W.nsIn K mainGlobals "parts_within" = some (some (.ref f9))) (l9 : K.lookup f9 = some ⟨oc9, od9, .func (PySem.W.fnOf "parts_within" "parts_within" (defArgs (topS 25)) (defBody (topS 25)) (defScope (topS 25)) .none kV9 dc9 pm9 an9 cd9 ct9), sl9⟩) (c9 : PySem.W.codeIn K cd9 "parts_within" = true) (k9 : PySem.W.keepIn K (.ref f9) = true)
  (a10 : PySem.W.nsIn K mainGlobals "is_pattern" = some (some (.ref f10))) (l10 : K.lookup f10 = some ⟨oc10, od10, .func (PySem.W.fnOf "is_pattern" "is_pattern" (defArgs (topS 26)) (defBody (topS 26)) (defScope (topS 26)) .none kV10 dc10 pm10 an10 cd10 ct10), sl10⟩) (c10 : PySem.W.codeIn K cd10 "is_pattern" = true) (k10 : PySem.W.keepIn K (.ref f10) = true)
  (a11 : PySem.W.nsIn K mainGlobals "_law_mixed" = some (some (.ref f11))) (l11 : K.lookup f11 = some ⟨oc11, od11, .func (PySem.W.fnOf "_law_mixed" "_law_mixed" (defArgs (topS 28)) (defBody (topS 28)) (defScope (topS 28)) .none kV11 dc11 pm11 an11 cd11 ct11), sl11⟩) (c11 : PySem.W.codeIn K cd11 "_law_mixed" = true) (k11 : PySem.W.keepIn K (.ref f11) = true)
  (a12 : PySem.W.nsIn K mainGlobals "_law_folded" = some (some (.ref f12))) (l12 : K.lookup f12 = some ⟨oc12, od12, .func (PySem.W.fnOf "_law_folded" "_law_folded" (defArgs (topS 29)) (defBody (topS 29)) (defScope (topS 29)) .none kV12 dc12 pm12 an12 cd12 ct12), sl12⟩) (c12 : PySem.W.codeIn K cd12 "_law_folded" = true) (k12 : PySem.W.keepIn K (.ref f12) = true)
  (a13 : PySem.W.nsIn K mainGlobals "_law_draw" = some (some (.ref f13))) (l13 : K.lookup f13 = some ⟨oc13, od13, .func (PySem.W.fnOf "_law_draw" "_law_draw" (defArgs (topS 30)) (defBody (topS 30)) (defScope (topS 30)) .none kV13 dc13 pm13 an13 cd13 ct13), sl13⟩) (c13 : PySem.W.codeIn K cd13 "_law_draw" = true) (k13 : PySem.W.keepIn K (.ref f13) = true)
  (a14 : PySem.W.nsIn K mainGlobals "_law_begun" = some (some (.ref f14))) (l14 : K.lookup f14 = some ⟨oc14, od14, .func (PySem.W.fnOf "_law_begun" "_law_begun" (defArgs (topS 31)) (defBody (topS 31)) (defScope (topS 31)) .none kV14 dc14 pm14 an14 cd14 ct14), sl14⟩) (c14 : PySem.W.codeIn K cd14 "_law_begun" = true) (k14 : PySem.W.keepIn K (.ref f14) = true)
  (a15 : PySem.W.nsIn K mainGlobals "_law_words" = some (some (.ref f15))) (l15 : K.lookup f15 = some ⟨oc15, od15, .func (PySem.W.fnOf "_law_words" "_law_words" (defArgs (topS 32)) (defBody (topS 32)) (defScope (topS 32)) .none kV15 dc15 pm15 an15 cd15 ct15), sl15⟩) (c15 : PySem.W.codeIn K cd15 "_law_words" = true) (k15 : PySem.W.keepIn K (.ref f15) = true)
  (a16 : PySem.W.nsIn K mainGlobals "_law_leaf" = some (some (.ref f16))) (l16 : K.lookup f16 = some ⟨oc16, od16, .func (PySem.W.fnOf "_law_leaf" "_law_leaf" (defArgs (topS 33)) (defBody (topS 33)) (defScope (topS 33)) .none kV16 dc16 pm16 an16 cd16 ct16), sl16⟩) (c16 : PySem.W.codeIn K cd16 "_law_leaf" = true) (k16 : PySem.W.keepIn K (.ref f16) = true)
  (a17 : PySem.W.nsIn K mainGlobals "_law_row" = some (some (.ref f17))) (l17 : K.lookup f17 = some ⟨oc17, od17, .func (PySem.W.fnOf "_law_row" "_law_row" (defArgs (topS 34)) (defBody (topS 34)) (defScope (topS 34)) .none kV17 dc17 pm17 an17 cd17 ct17), sl17⟩) (c17 : PySem.W.codeIn K cd17 "_law_row" = true) (k17 : PySem.W.keepIn K (.ref f17) = true)
  (a18 : PySem.W.nsIn K mainGlobals "_law_item_parts" = some (some (.ref f18))) (l18 : K.lookup f18 = some ⟨oc18, od18, .func (PySem.W.fnOf "_law_item_parts" "_law_item_parts" (defArgs (topS 35)) (defBody (topS 35)) (defScope (topS 35)) .none kV18 dc18 pm18 an18 cd18 ct18), sl18⟩) (c18 : PySem.W.codeIn K cd18 "_law_item_parts" = true) (k18 : PySem.W.keepIn K (.ref f18) = true)
  (a19 : PySem.W.nsIn K mainGlobals "_law_pattern" = some (some (.ref f19))) (l19 : K.lookup f19 = some ⟨oc19, od19, .func (PySem.W.fnOf "_law_pattern" "_law_pattern" (defArgs (topS 36)) (defBody (topS 36)) (defScope (topS 36)) .none kV19 dc19 pm19 an19 cd19 ct19), sl19⟩) (c19 : PySem.W.codeIn K cd19 "_law_pattern" = true) (k19 : PySem.W.keepIn K (.ref f19) = true)
  (a20 : PySem.W.nsIn K mainGlobals "_law_is_name" = some (some (.ref f20))) (l20 : K.lookup f20 = some ⟨oc20, od20, .func (PySem.W.fnOf "_law_is_name" "_law_is_name" (defArgs (topS 37)) (defBody (topS 37)) (defScope (topS 37)) .none kV20 dc20 pm20 an20 cd20 ct20), sl20⟩) (c20 : PySem.W.codeIn K cd20 "_law_is_name" = true) (k20 : PySem.W.keepIn K (.ref f20) = true)
  (a21 : PySem.W.nsIn K mainGlobals "_law_size" = some (some (.ref f21))) (l21 : K.lookup f21 = some ⟨oc21, od21, .func (PySem.W.fnOf "_law_size" "_law_size" (defArgs (topS 38)) (defBody (topS 38)) (defScope (topS 38)) .none kV21 dc21 pm21 an21 cd21 ct21), sl21⟩) (c21 : PySem.W.codeIn K cd21 "_law_size" = true) (k21 : PySem.W.keepIn K (.ref f21) = true)
  (a22 : PySem.W.nsIn K mainGlobals "_law_inner" = some (some (.ref f22))) (l22 : K.lookup f22 = some ⟨oc22, od22, .func (PySem.W.fnOf "_law_inner" "_law_inner" (defArgs (topS 39)) (defBody (topS 39)) (defScope (topS 39)) .none kV22 dc22 pm22 an22 cd22 ct22), sl22⟩) (c22 : PySem.W.codeIn K cd22 "_law_inner" = true) (k22 : PySem.W.keepIn K (.ref f22) = true)
  (a23 : PySem.W.nsIn K mainGlobals "_law_parts" = some (some (.ref f23))) (l23 : K.lookup f23 = some ⟨oc23, od23, .func (PySem.W.fnOf "_law_parts" "_law_parts" (defArgs (topS 40)) (defBody (topS 40)) (defScope (topS 40)) .none kV23 dc23 pm23 an23 cd23 ct23), sl23⟩) (c23 : PySem.W.codeIn K cd23 "_law_parts" = true) (k23 : PySem.W.keepIn K (.ref f23) = true)
  (a24 : PySem.W.nsIn K mainGlobals "_law_spots" = some (some (.ref f24))) (l24 : K.lookup f24 = some ⟨oc24, od24, .func (PySem.W.fnOf "_law_spots" "_law_spots" (defArgs (topS 41)) (defBody (topS 41)) (defScope (topS 41)) .none kV24 dc24 pm24 an24 cd24 ct24), sl24⟩) (c24 : PySem.W.codeIn K cd24 "_law_spots" = true) (k24 : PySem.W.keepIn K (.ref f24) = true)
  (a25 : PySem.W.nsIn K mainGlobals "_law_at" = some (some (.ref f25))) (l25 : K.lookup f25 = some ⟨oc25, od25, .func (PySem.W.fnOf "_law_at" "_law_at" (defArgs (topS 42)) (defBody (topS 42)) (defScope (topS 42)) .none kV25 dc25 pm25 an25 cd25 ct25), sl25⟩) (c25 : PySem.W.codeIn K cd25 "_law_at" = true) (k25 : PySem.W.keepIn K (.ref f25) = true)
  (a26 : PySem.W.nsIn K mainGlobals "_law_put" = some (some (.ref f26))) (l26 : K.lookup f26 = some ⟨oc26, od26, .func (PySem.W.fnOf "_law_put" "_law_put" (defArgs (topS 43)) (defBody (topS 43)) (defScope (topS 43)) .none kV26 dc26 pm26 an26 cd26 ct26), sl26⟩) (c26 : PySem.W.codeIn K cd26 "_law_put" = true) (k26 : PySem.W.keepIn K (.ref f26) = true)
  (a27 : PySem.W.nsIn K mainGlobals "_law_odd" = some (some (.ref f27))) (l27 : K.lookup f27 = some ⟨oc27, od27, .func (PySem.W.fnOf "_law_odd" "_law_odd" (defArgs (topS 44)) (defBody (topS 44)) (defScope (topS 44)) .none kV27 dc27 pm27 an27 cd27 ct27), sl27⟩) (c27 : PySem.W.codeIn K cd27 "_law_odd" = true) (k27 : PySem.W.keepIn K (.ref f27) = true)
  (a28 : PySem.W.nsIn K mainGlobals "_law_spoilt" = some (some (.ref f28))) (l28 : K.lookup f28 = some ⟨oc28, od28, .func (PySem.W.fnOf "_law_spoilt" "_law_spoilt" (defArgs (topS 45)) (defBody (topS 45)) (defScope (topS 45)) .none kV28 dc28 pm28 an28 cd28 ct28), sl28⟩) (c28 : PySem.W.codeIn K cd28 "_law_spoilt" = true) (k28 : PySem.W.keepIn K (.ref f28) = true)
  (a29 : PySem.W.nsIn K mainGlobals "_law_truths" = some (some (.ref f29))) (l29 : K.lookup f29 = some ⟨oc29, od29, .func (PySem.W.fnOf "_law_truths" "_law_truths" (defArgs (topS 46)) (defBody (topS 46)) (defScope (topS 46)) .none kV29 dc29 pm29 an29 cd29 ct29), sl29⟩) (c29 : PySem.W.codeIn K cd29 "_law_truths" = true) (k29 : PySem.W.keepIn K (.ref f29) = true)
  (a30 : PySem.W.nsIn K mainGlobals "_law_known" = some (some (.ref f30))) (l30 : K.lookup f30 = some ⟨oc30, od30, .func (PySem.W.fnOf "_law_known" "_law_known" (defArgs (topS 47)) (defBody (topS 47)) (defScope (topS 47)) .none kV30 dc30 pm30 an30 cd30 ct30), sl30⟩) (c30 : PySem.W.codeIn K cd30 "_law_known" = true) (k30 : PySem.W.keepIn K (.ref f30) = true)
  (a31 : PySem.W.nsIn K mainGlobals "_law_wrapped" = some (some (.ref f31))) (l31 : K.lookup f31 = some ⟨oc31, od31, .func (PySem.W.fnOf "_law_wrapped" "_law_wrapped" (defArgs (topS 48)) (defBody (topS 48)) (defScope (topS 48)) .none kV31 dc31 pm31 an31 cd31 ct31), sl31⟩) (c31 : PySem.W.codeIn K cd31 "_law_wrapped" = true) (k31 : PySem.W.keepIn K (.ref f31) = true)
  (a32 : PySem.W.nsIn K mainGlobals "_law_worths" = some (some (.ref f32))) (l32 : K.lookup f32 = some ⟨oc32, od32, .func (PySem.W.fnOf "_law_worths" "_law_worths" (defArgs (topS 49)) (defBody (topS 49)) (defScope (topS 49)) .none kV32 dc32 pm32 an32 cd32 ct32), sl32⟩) (c32 : PySem.W.codeIn K cd32 "_law_worths" = true) (k32 : PySem.W.keepIn K (.ref f32) = true)
  (a33 : PySem.W.nsIn K mainGlobals "_law_names" = some (some (.ref f33))) (l33 : K.lookup f33 = some ⟨oc33, od33, .func (PySem.W.fnOf "_law_names" "_law_names" (defArgs (topS 50)) (defBody (topS 50)) (defScope (topS 50)) .none kV33 dc33 pm33 an33 cd33 ct33), sl33⟩) (c33 : PySem.W.codeIn K cd33 "_law_names" = true) (k33 : PySem.W.keepIn K (.ref f33) = true)
  (a34 : PySem.W.nsIn K mainGlobals "_law_bounds" = some (some (.ref f34))) (l34 : K.lookup f34 = some ⟨oc34, od34, .func (PySem.W.fnOf "_law_bounds" "_law_bounds" (defArgs (topS 51)) (defBody (topS 51)) (defScope (topS 51)) .none kV34 dc34 pm34 an34 cd34 ct34), sl34⟩) (c34 : PySem.W.codeIn K cd34 "_law_bounds" = true) (k34 : PySem.W.keepIn K (.ref f34) = true)
  (a35 : PySem.W.nsIn K mainGlobals "law" = some (some (.ref f35))) (l35 : K.lookup f35 = some ⟨oc35, od35, .func (PySem.W.fnOf "law" "law" (defArgs (topS 52)) (defBody (topS 52)) (defScope (topS 52)) .none kV35 dc35 pm35 an35 cd35 ct35), sl35⟩) (c35 : PySem.W.codeIn K cd35 "law" = true) (k35 : PySem.W.keepIn K (.ref f35) = true)
  (g0a : PySem.W.nsIn K mainGlobals "LETTERS" = some (some gv0)) (g0k : conV gv0 (.str "abcdefghijklmnopqrstuvwxyz") = true)
  (g1a : PySem.W.nsIn K mainGlobals "MOST_LETTERS" = some (some gv1)) (g1k : conV gv1 (.int 6) = true)
  (g2a : PySem.W.nsIn K mainGlobals "MOST_LEAF" = some (some gv2)) (g2k : conV gv2 (.int 99) = true)
  (g3a : PySem.W.nsIn K mainGlobals "BARRED" = some (some (.ref g3))) (g3l : K.lookup g3 = some go3) (g3k : conOk go3 (.tup [.str "any", .str "is", .str "name", .str "both", .str "either", .str "not", .str "first", .str "row", .str "lot", .str "turned", .str "all", .str "use", .str "hole", .str "one", .str "stretch", .str "rest", .str "rule", .str "end"]) = true)
  (g4a : PySem.W.nsIn K mainGlobals "MOST_THINGS" = some (some gv4)) (g4k : conV gv4 (.int 10) = true)
  (g5a : PySem.W.nsIn K mainGlobals "MOST_SIZE" = some (some gv5)) (g5k : conV gv5 (.int 60) = true)
  (g6a : PySem.W.nsIn K mainGlobals "MOST_DEEP_worths" = some (some gv6)) (g6k : conV gv6 (.int 6) = true)
  (g7a : PySem.W.nsIn K mainGlobals "MOST_PARTS" = some (some gv7)) (g7k : conV gv7 (.int 40) = true)
  (g8a : PySem.W.nsIn K mainGlobals "MOST_DEEP_patterns" = some (some gv8)) (g8k : conV gv8 (.int 10) = true)
  (g9a : PySem.W.nsIn K mainGlobals "MOST_ARGS" = some (some gv9)) (g9k : conV gv9 (.int 2) = true)
  (g10a : PySem.W.nsIn K mainGlobals "PAIRS" = some (some (.ref g10))) (g10l : K.lookup g10 = some go10) (g10k : conOk go10 (.tup [.str "both", .str "either"]) = true)
  (g11a : PySem.W.nsIn K mainGlobals "LONE" = some (some (.ref g11))) (g11l : K.lookup g11 = some go11) (g11k : conOk go11 (.tup [.str "not", .str "first", .str "turned", .str "all"]) = true)
  (d0a : PySem.W.nsIn K mainGlobals "MOST_ITEMS" = some (some (.ref d0))) (d0l : K.lookup d0 = some ⟨.type "dict", none, .dict des0 dn0, #[]⟩) (d0k : PySem.W.KeysLit w.params des0.toList) (d0s : (d0 == PySem.sysModules) = false) (d0c : dctKv des0.toList [(("row" : Str), .int 6), (("lot" : Str), .int 4)] = true)
  (z0 : PySem.W.nsIn K mainGlobals "isinstance" = some none)
  (z1 : PySem.W.nsIn K mainGlobals "int" = some none)
  (z2 : PySem.W.nsIn K mainGlobals "bool" = some none)
  (z3 : PySem.W.nsIn K mainGlobals "str" = some none)
  (z4 : PySem.W.nsIn K mainGlobals "len" = some none)
  (z5 : PySem.W.nsIn K mainGlobals "all" = some none)
  (z6 : PySem.W.nsIn K mainGlobals "tuple" = some none)
  (z7 : PySem.W.nsIn K mainGlobals "enumerate" = some none)
  (z8 : PySem.W.nsIn K mainGlobals "list" = some none)
  (z9 : PySem.W.nsIn K mainGlobals "range" = some none)
  (z10 : PySem.W.nsIn K mainGlobals "sum" = some none)
  (z11 : PySem.W.nsIn K mainGlobals "repr" = some none)
  (z12 : PySem.W.nsIn K mainGlobals "min" = some none) :
  Glob K mg G ∧ (∀ b ∈ bs, mg b = none) ∧ ∀ f e, T f = some e → ∀ base : Heap, (∀ p ∈ codesOf lams K, LamX.TabB base mg p.1 p.2) → Tied prog w K mg base T G bs f e := by
  have gd_MOST_ITEMS : GDct K w mg "MOST_ITEMS" [(("row" : Str), .int 6), (("lot" : Str), .int 4)] := ⟨_, _, _, PySem.W.mg_of X Gn d0a, d0l, d0k, d0s, d0c⟩
  refine ⟨glob_all ?_, none_all ?_, fun f e hf base TB => (tied_all (base := base) ?_) f e hf⟩
  · exact GlobL.cons (glob_val (PySem.W.mg_of X Gn g0a) g0k) (GlobL.cons (glob_val (PySem.W.mg_of X Gn g1a) g1k) (GlobL.cons (glob_val (PySem.W.mg_of X Gn g2a) g2k) (GlobL.cons (glob_tup (PySem.W.mg_of X Gn g3a) g3l g3k) (GlobL.cons (glob_val (PySem.W.mg_of X Gn g4a) g4k) (GlobL.cons (glob_val (PySem.W.mg_of X Gn g5a) g5k) (GlobL.cons (glob_val (PySem.W.mg_of X Gn g6a) g6k) (GlobL.cons (glob_val (PySem.W.mg_of X Gn g7a) g7k) (GlobL.cons (glob_val (PySem.W.mg_of X Gn g8a) g8k) (GlobL.cons (glob_val (PySem.W.mg_of X Gn g9a) g9k) (GlobL.cons (glob_tup (PySem.W.mg_of X Gn g10a) g10l g10k) (GlobL.cons (glob_tup (PySem.W.mg_of X Gn g11a) g11l g11k) (GlobL.nil))))))))))))
  · exact NoneL.cons (PySem.W.mg_none_of X Gn z0) (NoneL.cons (PySem.W.mg_none_of X Gn z1) (NoneL.cons (PySem.W.mg_none_of X Gn z2) (NoneL.cons (PySem.W.mg_none_of X Gn z3) (NoneL.cons (PySem.W.mg_none_of X Gn z4) (NoneL.cons (PySem.W.mg_none_of X Gn z5) (NoneL.cons (PySem.W.mg_none_of X Gn z6) (NoneL.cons (PySem.W.mg_none_of X Gn z7) (NoneL.cons (PySem.W.mg_none_of X Gn z8) (NoneL.cons (PySem.W.mg_none_of X Gn z9) (NoneL.cons (PySem.W.mg_none_of X Gn z10) (NoneL.cons (PySem.W.mg_none_of X Gn z11) (NoneL.cons (PySem.W.mg_none_of X Gn z12) (NoneL.nil)))))))))))))
  · exact TiedL.cons (tie_is_whole gd_MOST_ITEMS (glA_of a0) (PySem.W.mg_of X Gn a0) (fun_mk (st := topS 5) l0 c0 k0)) (TiedL.cons (tie_is_among gd_MOST_ITEMS (glA_of a1) (PySem.W.mg_of X Gn a1) (fun_mk (st := topS 6) l1 c1 k1)) (TiedL.cons (tie_is_name gd_MOST_ITEMS (glA_of a2) (PySem.W.mg_of X Gn a2) (fun_mk (st := topS 7) l2 c2 k2)) (TiedL.cons (tie_is_leaf gd_MOST_ITEMS (glA_of a3) (PySem.W.mg_of X Gn a3) (fun_mk (st := topS 12) l3 c3 k3)) (TiedL.cons (tie_size_within gd_MOST_ITEMS (glA_of a4) (PySem.W.mg_of X Gn a4) (fun_mk (st := topS 13) l4 c4 k4)) (TiedL.cons (tie_is_worth gd_MOST_ITEMS (glA_of a5) (PySem.W.mg_of X Gn a5) (fun_mk (st := topS 14) l5 c5 k5)) (TiedL.cons (tie_are_items gd_MOST_ITEMS (glA_of a6) (PySem.W.mg_of X Gn a6) (fun_mk (st := topS 22) l6 c6 k6)) (TiedL.cons (tie_has_form gd_MOST_ITEMS (glA_of a7) (PySem.W.mg_of X Gn a7) (fun_mk (st := topS 23) l7 c7 k7)) (TiedL.cons (tie_within gd_MOST_ITEMS (glA_of a8) (PySem.W.mg_of X Gn a8) (fun_mk (st := topS 24) l8 c8 k8)) (TiedL.cons (tie_parts_within gd_MOST_ITEMS (glA_of a9) (PySem.W.mg_of X Gn a9) (fun_mk (st := topS 25) l9 c9 k9)) (TiedL.cons (tie_is_pattern gd_MOST_ITEMS (glA_of a10) (PySem.W.mg_of X Gn a10) (fun_mk (st := topS 26) l10 c10 k10)) (TiedL.cons (tie__law_mixed gd_MOST_ITEMS (glA_of a11) (PySem.W.mg_of X Gn a11) (fun_mk (st := topS 28) l11 c11 k11)) (TiedL.cons (tie__law_folded gd_MOST_ITEMS (glA_of a12) (PySem.W.mg_of X Gn a12) (fun_mk (st := topS 29) l12 c12 k12)) (TiedL.cons (tie__law_draw gd_MOST_ITEMS (glA_of a13) (PySem.W.mg_of X Gn a13) (fun_mk (st := topS 30) l13 c13 k13)) (TiedL.cons (tie__law_begun gd_MOST_ITEMS (glA_of a14) (PySem.W.mg_of X Gn a14) (fun_mk (st := topS 31) l14 c14 k14)) (TiedL.cons (tie__law_words gd_MOST_ITEMS (glA_of a15) (PySem.W.mg_of X Gn a15) (fun_mk (st := topS 32) l15 c15 k15)) (TiedL.cons (tie__law_leaf gd_MOST_ITEMS (glA_of a16) (PySem.W.mg_of X Gn a16) (fun_mk (st := topS 33) l16 c16 k16)) (TiedL.cons (tie__law_row gd_MOST_ITEMS (glA_of a17) (PySem.W.mg_of X Gn a17) (fun_mk (st := topS 34) l17 c17 k17)) (TiedL.cons (tie__law_item_parts gd_MOST_ITEMS (glA_of a18) (PySem.W.mg_of X Gn a18) (fun_mk (st := topS 35) l18 c18 k18)) (TiedL.cons (tie__law_pattern gd_MOST_ITEMS (glA_of a19) (PySem.W.mg_of X Gn a19) (fun_mk (st := topS 36) l19 c19 k19)) (TiedL.cons (tie__law_is_name gd_MOST_ITEMS (glA_of a20) (PySem.W.mg_of X Gn a20) (fun_mk (st := topS 37) l20 c20 k20)) (TiedL.cons (tie__law_size gd_MOST_ITEMS (glA_of a21) (PySem.W.mg_of X Gn a21) (fun_mk (st := topS 38) l21 c21 k21)) (TiedL.cons (tie__law_inner gd_MOST_ITEMS (glA_of a22) (PySem.W.mg_of X Gn a22) (fun_mk (st := topS 39) l22 c22 k22)) (TiedL.cons (tie__law_parts gd_MOST_ITEMS (glA_of a23) (PySem.W.mg_of X Gn a23) (fun_mk (st := topS 40) l23 c23 k23)) (TiedL.cons (tie__law_spots gd_MOST_ITEMS (glA_of a24) (PySem.W.mg_of X Gn a24) (fun_mk (st := topS 41) l24 c24 k24)) (TiedL.cons (tie__law_at gd_MOST_ITEMS (glA_of a25) (PySem.W.mg_of X Gn a25) (fun_mk (st := topS 42) l25 c25 k25)) (TiedL.cons (tie__law_put gd_MOST_ITEMS (glA_of a26) (PySem.W.mg_of X Gn a26) (fun_mk (st := topS 43) l26 c26 k26)) (TiedL.cons (tie__law_odd gd_MOST_ITEMS (glA_of a27) (PySem.W.mg_of X Gn a27) (fun_mk (st := topS 44) l27 c27 k27)) (TiedL.cons (tie__law_spoilt gd_MOST_ITEMS (glA_of a28) (PySem.W.mg_of X Gn a28) (fun_mk (st := topS 45) l28 c28 k28)) (TiedL.cons (tie__law_truths gd_MOST_ITEMS (glA_of a29) (PySem.W.mg_of X Gn a29) (fun_mk (st := topS 46) l29 c29 k29)) (TiedL.cons (tie__law_known gd_MOST_ITEMS (glA_of a30) (PySem.W.mg_of X Gn a30) (fun_mk (st := topS 47) l30 c30 k30)) (TiedL.cons (tie__law_wrapped gd_MOST_ITEMS (glA_of a31) (PySem.W.mg_of X Gn a31) (fun_mk (st := topS 48) l31 c31 k31)) (TiedL.cons (tie__law_worths gd_MOST_ITEMS (glA_of a32) (PySem.W.mg_of X Gn a32) (fun_mk (st := topS 49) l32 c32 k32)) (TiedL.cons (tie__law_names gd_MOST_ITEMS (glA_of a33) (PySem.W.mg_of X Gn a33) (fun_mk (st := topS 50) l33 c33 k33)) (TiedL.cons (tie__law_bounds gd_MOST_ITEMS (glA_of a34) (PySem.W.mg_of X Gn a34) (fun_mk (st := topS 51) l34 c34 k34)) (TiedL.cons (tie_law gd_MOST_ITEMS (glA_of a35) (PySem.W.mg_of X Gn a35) (fun_mk (st := topS 52) l35 c35 k35)) (TiedL.nil))))))))))))))))))))))))))))))))))))
end Mi.K20
/-! Mi27: the order of worths, and their ranks. -/
namespace Mi
open PySem PySem.SeqAt PySem.Spec PyProof.Rows L2
/-! ### the order -/
noncomputable def lexL (f : D → D → Bool) : List D → List D → Bool
  | _, [] => false
  | [], _ :: _ => true
  | x :: a, y :: b => if x = y then lexL f a b else f x y
/-- whether one worth is ahead of another -/
noncomputable def ahd : Nat → D → D → Bool
  | _ + 1, .int m, .int n => decide (m < n)
  | _ + 1, .int _, .tup _ => true
  | k + 1, .tup a, .tup b => lexL (ahd k) a b
  | _, _, _ => false
theorem size_kind {k : Nat} {d : D} (p : 0 < sizeW k d) : ∃ j, k = j + 1 ∧ ((∃ i, d = .int i ∧ 0 ≤ i ∧ i ≤ 99) ∨ ∃ l, d = .tup l ∧ l.length ≤ 10 ∧ ∀ x ∈ l, 0 < sizeW j x) := by
  cases k with
  | zero => simp [sizeW] at p
  | succ j =>
    refine ⟨j, rfl, ?_⟩
    by_cases lf : leafD d = true
    · obtain ⟨i, rfl, h⟩ := leaf_int lf
      exact .inl ⟨i, rfl, h⟩
    · cases d with
      | tup l => obtain ⟨q1, q2, _⟩ := size_row p; exact .inr ⟨l, rfl, q1, q2⟩
      | _ => simp only [sizeW, lf] at p; simp at p
/-! ### ranks -/
mutual
def rkD : D → D
  | .tup l => .tup [.int 1, .lst (rkL l)]
  | d => .tup [.int 0, d]
def rkL : List D → List D
  | [] => []
  | d :: l => rkD d :: rkL l
end
section
variable {X : Exc → Hh → Prop} {h : Hh} {Q : R → Hh → Prop}
end
end Mi
/-! Mi28: kinds and canons, plain Lean. -/
namespace Mi
open PySem PySem.SeqAt PySem.Spec PyProof.Rows L2
open SrtO (Swo Srtd Stb)
/-! ### the order of good worths, for all data -/
open Classical in
noncomputable def gW (d : D) : D := if 0 < sizeW 9 d then d else .int 0
noncomputable def ahG (a b : D) : Bool := ahd 9 (gW a) (gW b)
/-! ### kinds -/
inductive How where
  | rows | lots | turned
  deriving DecidableEq
def How.s : How → Str
  | .rows => "rows"
  | .lots => "lots"
  | .turned => "turned"
structure Kd where
  cs : List (List Int)
  how : How
abbrev clsD (c : List Int) : D := .tup (c.map .int)
abbrev Kd.d (K : Kd) : D := .tup [.tup (K.cs.map clsD), .str K.how.s]
/-- a class -/
structure GoodC (c : List Int) : Prop where
  two : 2 ≤ c.length
  ten : c.length ≤ 10
  leaf : ∀ i ∈ c, 0 ≤ i ∧ i ≤ 99
  rise : c.Pairwise (· < ·)
def risesI : List (List Int) → Bool
  | a :: b :: r => lexI a b && risesI (b :: r)
  | _ => true
structure GoodK (K : Kd) : Prop where
  cls : ∀ c ∈ K.cs, GoodC c
  five : K.cs.length ≤ 5
  rise : risesI K.cs = true
  nod : K.cs.flatten.Nodup
/-- the least one of a leaf's class -/
def leafC (cs : List (List Int)) (i : Int) : Int := match cs with
  | [] => i
  | c :: r => if i ∈ c then c.headD i else leafC r i
theorem leafC_non {i : Int} : ∀ {cs : List (List Int)}, (∀ c ∈ cs, i ∉ c) → leafC cs i = i
  | [], _ => rfl
  | c :: r, h => by
    unfold leafC
    rw [if_neg (h c List.mem_cons_self)]
    exact leafC_non fun c' hc => h c' (List.mem_cons_of_mem _ hc)
theorem leafC_in {i : Int} {c : List Int} (hi : i ∈ c) : ∀ {cs : List (List Int)}, cs.flatten.Nodup → c ∈ cs → leafC cs i = c.headD i
  | [], _, h => by cases h
  | c' :: r, n, h => by
    rw [List.flatten_cons, List.nodup_append] at n
    unfold leafC
    rcases List.mem_cons.mp h with e | h
    · rw [← e, if_pos hi]
    · rw [if_neg fun z => n.2.2 i z i (List.mem_flatten.mpr ⟨c, h, hi⟩) rfl]
      exact leafC_in hi n.2.1 h
theorem leafC_cases {i : Int} {cs : List (List Int)} (n : cs.flatten.Nodup) : (∃ c ∈ cs, i ∈ c ∧ leafC cs i = c.headD i) ∨ ((∀ c ∈ cs, i ∉ c) ∧ leafC cs i = i) := by
  by_cases h : ∃ c ∈ cs, i ∈ c
  · obtain ⟨c, hc, hi⟩ := h
    exact .inl ⟨c, hc, hi, leafC_in hi n hc⟩
  · have h : ∀ c ∈ cs, i ∉ c := fun c hc hi => h ⟨c, hc, hi⟩
    exact .inr ⟨h, leafC_non h⟩
theorem head_in {c : List Int} {i : Int} (h : i ∈ c) : c.headD i ∈ c := by
  cases c with
  | nil => cases h
  | cons x l => exact List.mem_cons_self
theorem head_eq {c : List Int} {i j : Int} (h : i ∈ c) : c.headD j = c.headD i := by
  cases c with
  | nil => cases h
  | cons x l => rfl
/-- by fewer classes, then by more -/
theorem leafC_sub {cs cs' : List (List Int)} (n : cs.flatten.Nodup) (n' : cs'.flatten.Nodup) (s : ∀ c ∈ cs, c ∈ cs') (i : Int) : leafC cs' (leafC cs i) = leafC cs' i := by
  rcases leafC_cases (i := i) n with ⟨c, hc, hi, e⟩ | ⟨_, e⟩
  · rw [e, leafC_in (head_in hi) n' (s c hc), leafC_in hi n' (s c hc)]
    exact head_eq hi
  · rw [e]
/-! ### canons -/
open Classical in
noncomputable def arrg : How → List D → List D
  | .rows, l => l
  | .lots, l => isortG ahG l
  | .turned, l => if ahG (.tup l.reverse) (.tup l) = true then l.reverse else l
mutual
noncomputable def can (K : Kd) : D → D
  | .int i => .int (leafC K.cs i)
  | .tup l => .tup (arrg K.how (canL K l))
  | d => d
noncomputable def canL (K : Kd) : List D → List D
  | [] => []
  | d :: l => can K d :: canL K l
end
/-- a finer kind -/
structure Finer (K K' : Kd) : Prop where
  leaf : ∀ i, leafC K'.cs (leafC K.cs i) = leafC K'.cs i
  how : K.how = .rows ∨ K.how = K'.how
theorem Finer.self {K : Kd} (g : GoodK K) : Finer K K := ⟨leafC_sub g.nod g.nod fun _ h => h, .inr rfl⟩
/-! ### a canon is not behind -/
end Mi
/-! Mi37: things that can be looked at and told, truths and longer numbers too. -/
namespace Mi
open PySem PySem.Spec PyProof.Rows L2
variable {X : Exc → Hh → Prop}
/-- it can be looked at everywhere, and its text can be told: so deep, so heavy -/
structure Ok (k w : Nat) (d : D) : Prop where
  py : ∃ p, d.py = some p ∧ p.canLay0 = true ∧ p.showable = true ∧ p.intsShort 30 = true ∧ p.depth ≤ k ∧ p.weight ≤ w
  sn : ∀ (h : Hh) (j : Nat), Sn h j d
theorem Ok.le {k w k' w' : Nat} {d : D} (t : Ok k w d) (hk : k ≤ k' := by omega) (hw : w ≤ w' := by omega) : Ok k' w' d := by
  obtain ⟨⟨p, e, h1, h2, h3, h4, h5⟩, s⟩ := t
  exact ⟨⟨p, e, h1, h2, h3, by omega, by omega⟩, s⟩
theorem Sn.any {h : Hh} {d : D} (e : Mi.seen h d = true) (ht : ∀ l, d ≠ .tup l) (hs : ∀ s, d ≠ .str s) : ∀ j, Sn h j d := fun j => by
  cases d with
  | tup l => exact absurd rfl (ht l)
  | str s => exact absurd rfl (hs s)
  | _ => cases j <;> exact e
theorem Ok.non : Ok 0 0 .non := ⟨⟨.none, by simp [D.py], rfl, rfl, rfl, Nat.le_refl _, Nat.le_refl _⟩, fun _ => Sn.any rfl nofun nofun⟩
theorem Ok.bl {b : Bool} : Ok 0 0 (.bl b) := ⟨⟨.bool b, by simp [D.py], rfl, rfl, rfl, Nat.le_refl _, Nat.le_refl _⟩, fun _ => Sn.any rfl nofun nofun⟩
theorem wt_int2 {i : Int} (h : i.natAbs < 10 ^ 25) : (PyData.int i).weight ≤ 90 ∧ i.natAbs.log2 < 1920 := by
  by_cases z : i.natAbs = 0
  · have e : i = 0 := by omega
    subst e
    decide
  · have := (Nat.log2_lt z (k := 84)).mpr (Nat.lt_trans h (by decide))
    refine ⟨?_, by omega⟩
    simp only [PyData.weight]
    split <;> omega
theorem Ok.int {i : Int} (h : i.natAbs < 10 ^ 25) : Ok 0 90 (.int i) :=
  ⟨⟨.int i, by simp [D.py], rfl, by simp only [PyData.showable, decide_eq_true_eq]; exact (wt_int2 h).2, by
    simp only [PyData.intsShort, decide_eq_true_eq]
    have e := int_text_length_le10 (k := 25) (by decide) h
    show (Str.ofString (toString i)).length ≤ 30
    rw [PySem.ofString_length]
    exact Nat.le_trans e (by decide), Nat.le_refl _, (wt_int2 h).1⟩, fun _ => Sn.any rfl nofun nofun⟩
theorem Ok.str {s : Str} (h : PyData.strOk s = true) : Ok 0 s.length (.str s) := ⟨⟨.str s, by simp [D.py], h, rfl, rfl, Nat.le_refl _, Nat.le_refl _⟩, fun _ j => by cases j <;> exact h⟩
theorem ok_all {k w : Nat} : ∀ {l : List D}, (∀ x ∈ l, Ok k w x) → ∃ ps, pyAll l = some ps ∧ PyData.canLayAll0 ps = true ∧ PyData.showableAll ps = true ∧ PyData.intsShortAll 30 ps = true ∧ PyData.depthAll ps ≤ k ∧ PyData.weightAll ps ≤ l.length * (w + 1)
  | [], _ => ⟨[], by simp [pyAll], rfl, rfl, rfl, Nat.zero_le _, Nat.zero_le _⟩
  | x :: l, h => by
    obtain ⟨p, e, h1, h2, h3, h4, h5⟩ := (h x List.mem_cons_self).py
    obtain ⟨ps, e', g1, g2, g3, g4, g5⟩ := ok_all (l := l) fun y hy => h y (List.mem_cons_of_mem _ hy)
    refine ⟨p :: ps, by simp only [pyAll, e, e'], ?_, ?_, ?_, ?_, ?_⟩
    · simp only [PyData.canLayAll0, h1, g1, Bool.and_self]
    · simp only [PyData.showableAll, h2, g2, Bool.and_self]
    · simp only [PyData.intsShortAll, h3, g3, Bool.and_self]
    · simp only [PyData.depthAll]; omega
    · simp only [PyData.weightAll, List.length_cons, Nat.add_mul]; omega
theorem Ok.tup {k w n : Nat} {l : List D} (hl : l.length ≤ n) (h : ∀ x ∈ l, Ok k w x) : Ok (k + 1) (n * (w + 1)) (.tup l) := by
  obtain ⟨ps, e, h1, h2, h3, h4, h5⟩ := ok_all h
  have := Nat.mul_le_mul_right (w + 1) hl
  refine ⟨⟨.tuple ps, by simp [D.py, e], by simpa [PyData.canLay0] using h1, by simpa [PyData.showable] using h2, by simpa [PyData.intsShort] using h3, by simp only [PyData.depth]; omega, ?_⟩, fun g j => ?_⟩
  · simp only [PyData.weight]; omega
  · cases j with
    | zero => exact rfl
    | succ j => exact fun x hx => (h x hx).sn g j
theorem Ok.lst {k w n : Nat} {l : List D} (hl : l.length ≤ n) (h : ∀ x ∈ l, Ok k w x) : Ok (k + 1) (n * (w + 1)) (.lst l) := by
  obtain ⟨ps, e, h1, h2, h3, h4, h5⟩ := ok_all h
  have := Nat.mul_le_mul_right (w + 1) hl
  refine ⟨⟨.list ps, by simp [D.py, e], by simpa [PyData.canLay0] using h1, by simpa [PyData.showable] using h2, by simpa [PyData.intsShort] using h3, by simp only [PyData.depth]; omega, ?_⟩, fun g => Sn.any rfl nofun nofun⟩
  simp only [PyData.weight]; omega
theorem all_in {k w : Nat} : ∀ {l : List D} {ps : List PyData}, pyAll l = some ps → PyData.canLayAll0 ps = true → PyData.showableAll ps = true → PyData.intsShortAll 30 ps = true → PyData.depthAll ps ≤ k → PyData.weightAll ps ≤ w →
    ∀ x ∈ l, ∃ p, x.py = some p ∧ p.canLay0 = true ∧ p.showable = true ∧ p.intsShort 30 = true ∧ p.depth ≤ k ∧ p.weight ≤ w
  | [], _, _, _, _, _, _, _, x, hx => by cases hx
  | y :: l, ps, e, h1, h2, h3, h4, h5, x, hx => by
    unfold pyAll at e
    cases e1 : y.py with
    | none => rw [e1] at e; simp at e
    | some p =>
      cases e2 : pyAll l with
      | none => rw [e1, e2] at e; simp at e
      | some qs =>
        rw [e1, e2] at e
        simp at e
        subst e
        simp only [PyData.canLayAll0, PyData.showableAll, PyData.intsShortAll, Bool.and_eq_true, PyData.depthAll, PyData.weightAll] at h1 h2 h3 h4 h5
        rcases List.mem_cons.mp hx with rfl | hx
        · exact ⟨p, e1, h1.1, h2.1, h3.1, by omega, by omega⟩
        · exact all_in e2 h1.2 h2.2 h3.2 (by omega) (by omega) x hx
theorem Ok.inT {k w : Nat} {l : List D} (t : Ok k w (.tup l)) {x : D} (hx : x ∈ l) : Ok k w x := by
  obtain ⟨⟨p, e, h1, h2, h3, h4, h5⟩, s⟩ := t
  obtain ⟨ps, e2, rfl⟩ := py_tup e
  simp only [PyData.canLay0, PyData.showable, PyData.intsShort, PyData.depth, PyData.weight] at h1 h2 h3 h4 h5
  obtain ⟨p, q⟩ := all_in (k := k) (w := w) e2 h1 h2 h3 (by omega) h5 x hx
  exact ⟨⟨p, q⟩, fun h j => s h (j + 1) x hx⟩
/-! ### by reckoning -/
/-! ### nothing found -/
section
variable {h : Hh} {Q : R → Hh → Prop}
theorem eqF_nil {l : List D} {k w : Nat} (hl : ∀ x ∈ l, Ok k w x) (hk : k ≤ 50) : eqF h (.new l) (.new []) = some l.isEmpty := by
  obtain ⟨ps, e, h1, h2, h3, h4, h5⟩ := ok_all hl
  have e1 : (R.new l).pyH h = some (.list ps) := by
    show (pyAll l).map PyData.list = _
    rw [e]; rfl
  have s1 : SeqAt.shaped (.list ps) = true := by
    unfold SeqAt.shaped
    rw [show PyData.canLay0 (.list ps) = PyData.canLayAll0 ps by simp only [PyData.canLay0], h1]
    simp only [PyData.depth, Bool.true_and, decide_eq_true_eq]
    exact decide_eq_true (by omega)
  show (match (R.new l).pyH h, (R.new []).pyH h with
    | some a, some b => if SeqAt.shaped a && SeqAt.shaped b then some (PyData.eqv a b) else none
    | _, _ => none) = _
  rw [e1, show (R.new []).pyH h = some (.list []) from rfl]
  show (if (SeqAt.shaped _ && SeqAt.shaped (.list [])) = true then _ else _) = _
  rw [s1, if_pos (by rfl)]
  cases l with
  | nil => simp [pyAll] at e; subst e; rfl
  | cons x l =>
    unfold pyAll at e
    cases e1 : x.py with
    | none => rw [e1] at e; simp at e
    | some p =>
      cases e2 : pyAll l with
      | none => rw [e1, e2] at e; simp at e
      | some qs => rw [e1, e2] at e; simp at e; subst e; rfl
theorem w_eqNil {l : List D} {k w : Nat} (hl : ∀ x ∈ l, Ok k w x) (hk : k ≤ 50) (p : Q (.dat (.bl l.isEmpty)) h) : evX X (ofR h (cmpF h .eq (.new l) (.new [])) fun b => R.dat (.bl b)) Q := w_ofR (eqF_nil hl hk) p
theorem w_neNil {l : List D} {k w : Nat} (hl : ∀ x ∈ l, Ok k w x) (hk : k ≤ 50) (p : Q (.dat (.bl (!l.isEmpty))) h) : evX X (ofR h (cmpF h .ne (.new l) (.new [])) fun b => R.dat (.bl b)) Q := by
  refine w_ofR (a := !l.isEmpty) ?_ p
  show (eqF h _ _).map (!·) = _
  rw [eqF_nil hl hk]; rfl
/-! ### texts, of an empty dict too -/
def Rep (h : Hh) (d : D) : Prop := Rok d ∨ ∃ n, d = .ref n ∧ h[n]? = some (.dct [])
theorem Rep.text {d : D} (r : Rep h d) : ∃ s : Str, bltF h .repr [d] = some (.dat (.str s)) := by
  rcases r with ok | ⟨n, rfl, e⟩
  · refine ⟨rp d, ?_⟩
    have := w_reprD (X := noX) (h := h) (Q := fun r g => r = .dat (.str (rp d)) ∧ g = h) ok ⟨rfl, rfl⟩
    obtain ⟨a, g, e, ea, eg⟩ := ev_iff.mp this
    cases q : bltF h .repr [d] with
    | none => rw [q] at e; cases e
    | some a2 => rw [q] at e; cases e; rw [ea]
  · refine ⟨"{}", ?_⟩
    show reprF h [.ref n] = _
    have e1 : (R.dat (.ref n)).pyH h = none := by simp only [R.pyH, e]
    have e2 : reprE h (.ref n) = some (.dat (.str "{}")) := by
      simp only [reprE, D.pyE, e]
      exact if_pos (by decide +kernel)
    unfold reprF
    simp only [e1, e2]
end
/-! ### rows cut and put together -/
theorem cut_in {l : List D} {lo hi : Option Int} {x : D} (e : x ∈ cutD l lo hi) : x ∈ l := List.mem_of_mem_drop (List.mem_of_mem_take e)
theorem cut_len {l : List D} {lo hi : Option Int} : (cutD l lo hi).length ≤ l.length := by
  unfold cutD
  rw [List.length_take, List.length_drop]
  omega
end Mi
/-! Mi38: the program's patterns: form, parts. -/
namespace Mi
open PySem PySem.SeqAt PySem.Spec PyProof.Rows L2
variable {X : Exc → Hh → Prop}
abbrev mostItems : List (Str × D) := [(("row" : Str), .int 6), (("lot" : Str), .int 4)]
def fn_are_items : Fn := ⟨2, 4, (.cons (.ifs (.or2 (.not1 (.isi (.var 1) .tuple)) (.cmp .gt (.blt .len (.cons (.var 1) .nil)) (.gget "MOST_ITEMS" [(("row" : Str), .int 6), (("lot" : Str), .int 4)] (.var 0)))) (.cons (.ret (.con (.bl false))) .nil) .nil) (.cons (.for' (.tp [2, 3]) (.enum (.var 1)) (.cons (.ifs (.or2 (.not1 (.isi (.var 3) .tuple)) (.or2 (.cmp .ne (.blt .len (.cons (.var 3) .nil)) (.con (.int 2))) (.not1 (.isi (.ix (.var 3) (.con (.int 0))) .str)))) (.cons (.ret (.con (.bl false))) .nil) .nil) (.cons (.ifs (.and2 (.cmp .ne (.ix (.var 3) (.con (.int 0))) (.con (.str "one"))) (.not1 (.and2 (.cmp .eq (.ix (.var 3) (.con (.int 0))) (.con (.str "stretch"))) (.cmp .eq (.var 0) (.con (.str "row")))))) (.cons (.ifs (.or2 (.cmp .ne (.ix (.var 3) (.con (.int 0))) (.con (.str "rest"))) (.or2 (.cmp .ne (.var 0) (.con (.str "lot"))) (.cmp .lt (.var 2) (.bin .sub (.blt .len (.cons (.var 1) .nil)) (.con (.int 1)))))) (.cons (.ret (.con (.bl false))) .nil) .nil) .nil) .nil) .nil))) (.cons (.ret (.con (.bl true))) .nil)))⟩
def fn_has_form : Fn := ⟨1, 3, (.cons (.ifs (.or2 (.not1 (.isi (.var 0) .tuple)) (.or2 (.cmp .eq (.var 0) (.tup .nil)) (.not1 (.isi (.ix (.var 0) (.con (.int 0))) .str)))) (.cons (.ret (.con (.bl false))) .nil) .nil) (.cons (.asgs [1, 2] (.tup (.cons (.ix (.var 0) (.con (.int 0))) (.cons (.blt .len (.cons (.var 0) .nil)) .nil)))) (.cons (.ifs (.cmp .eq (.var 1) (.con (.str "any"))) (.cons (.ret (.cmp .eq (.var 2) (.con (.int 1)))) .nil) .nil) (.cons (.ifs (.cmp .isin (.var 1) (.glo "PAIRS")) (.cons (.ret (.cmp .eq (.var 2) (.con (.int 3)))) .nil) .nil) (.cons (.ifs (.cmp .eq (.var 1) (.con (.str "use"))) (.cons (.ret (.and2 (.cmp .eq (.var 2) (.con (.int 3))) (.and2 (.call "is_name" (.cons (.ix (.var 0) (.con (.int 1))) .nil)) (.and2 (.isi (.ix (.var 0) (.con (.int 2))) .tuple) (.cmp .le (.blt .len (.cons (.ix (.var 0) (.con (.int 2))) .nil)) (.glo "MOST_ARGS")))))) .nil) .nil) (.cons (.ifs (.cmp .ne (.var 2) (.con (.int 2))) (.cons (.ret (.con (.bl false))) .nil) .nil) (.cons (.ifs (.cmp .isin (.var 1) (.tup (.cons (.con (.str "name")) (.cons (.con (.str "hole")) .nil)))) (.cons (.ret (.call "is_name" (.cons (.ix (.var 0) (.con (.int 1))) .nil))) .nil) .nil) (.cons (.ifs (.gin "MOST_ITEMS" [(("row" : Str), .int 6), (("lot" : Str), .int 4)] (.var 1)) (.cons (.ret (.call "are_items" (.cons (.var 1) (.cons (.ix (.var 0) (.con (.int 1))) .nil)))) .nil) .nil) (.cons (.ret (.or2 (.cmp .isin (.var 1) (.glo "LONE")) (.and2 (.cmp .eq (.var 1) (.con (.str "is"))) (.call "is_worth" (.cons (.ix (.var 0) (.con (.int 1))) .nil))))) .nil)))))))))⟩
def fn_within : Fn := ⟨1, 3, (.cons (.asg 1 (.ix (.var 0) (.con (.int 0)))) (.cons (.ifs (.or2 (.cmp .isin (.var 1) (.glo "PAIRS")) (.cmp .isin (.var 1) (.glo "LONE"))) (.cons (.ret (.blt .toList (.cons (.sl (.var 0) (.part (.con (.int 1))) .no) .nil))) .nil) .nil) (.cons (.ifs (.gin "MOST_ITEMS" [(("row" : Str), .int 6), (("lot" : Str), .int 4)] (.var 1)) (.cons (.ret (.comp [2] (.nm 2) (.seq (.ix (.var 0) (.con (.int 1)))) (.con (.bl true)) (.ix (.var 2) (.con (.int 1))))) .nil) .nil) (.cons (.ret (.ite (.cmp .eq (.var 1) (.con (.str "use"))) (.blt .toList (.cons (.ix (.var 0) (.con (.int 2))) .nil)) (.lst .nil))) .nil))))⟩
def fn_parts_within : Fn := ⟨2, 5, (.cons (.ifs (.or2 (.cmp .eq (.var 1) (.con (.int 0))) (.not1 (.call "has_form" (.cons (.var 0) .nil)))) (.cons (.ret (.con (.int 0))) .nil) .nil) (.cons (.asg 2 (.con (.int 1))) (.cons (.for' (.nm 3) (.seq (.call "within" (.cons (.var 0) .nil))) (.cons (.asg 4 (.call "parts_within" (.cons (.var 3) (.cons (.bin .sub (.var 1) (.con (.int 1))) .nil)))) (.cons (.asg 2 (.bin .add (.var 2) (.var 4))) (.cons (.ifs (.or2 (.cmp .eq (.var 4) (.con (.int 0))) (.cmp .gt (.var 2) (.glo "MOST_PARTS"))) (.cons (.ret (.con (.int 0))) .nil) .nil) .nil)))) (.cons (.ret (.var 2)) .nil))))⟩
def fn_is_pattern (x : Str) : Fn := ⟨1, 1, (.cons (.ret (.cmp .gt (.call "parts_within" (.cons (.var 0) (.cons (.glo x) .nil))) (.con (.int 0)))) .nil)⟩
def fn_is_worthN (x : Str) : Fn := ⟨1, 1, (.cons (.ret (.cmp .gt (.call "size_within" (.cons (.var 0) (.cons (.glo x) .nil))) (.con (.int 0)))) .nil)⟩
/-- xw, xp: how the bounds of worths and of patterns are called here -/
structure WP (T : Tab) (G : Str → Option D) (xw xp : Str) : Prop extends W1 T G where
  worth : T "is_worth" = some (fn_is_worthN xw)
  gDeepW : G xw = some (.int 6)
  name : T "is_name" = some f_is_name
  gLetters : G "LETTERS" = some (.str letters)
  gMost : G "MOST_LETTERS" = some (.int 6)
  gBarred : G "BARRED" = some (.tup (barred.map .str))
  items : T "are_items" = some fn_are_items
  form : T "has_form" = some fn_has_form
  within : T "within" = some fn_within
  parts : T "parts_within" = some fn_parts_within
  pattern : T "is_pattern" = some (fn_is_pattern xp)
  gParts : G "MOST_PARTS" = some (.int 40)
  gDeepP : G xp = some (.int 10)
  gArgs : G "MOST_ARGS" = some (.int 2)
  gPairs : G "PAIRS" = some (.tup [.str "both", .str "either"])
  gLone : G "LONE" = some (.tup [.str "not", .str "first", .str "turned", .str "all"])
/-! ### what they tell -/
def itemB (row last : Bool) : D → Bool
  | .tup [.str w, _] => decide (w = "one") || (row && decide (w = "stretch")) || (!row && (last && decide (w = "rest")))
  | _ => false
def itemsB (row : Bool) (l : List D) : Bool := (List.range l.length).all fun i => itemB row (decide (l.length ≤ i + 1)) (l.getD i .non)
def itemsD (row : Bool) (m : Nat) : D → Bool
  | .tup l => decide (l.length ≤ m) && itemsB row l
  | _ => false
def pairW (w : Str) : Bool := decide (w ∈ (["both", "either"] : List Str))
def loneW (w : Str) : Bool := decide (w ∈ (["not", "first", "turned", "all"] : List Str))
def useD : List D → Bool
  | [n, .tup a] => nameD n && decide (a.length ≤ 2)
  | _ => false
theorem useD_t {n : D} {a : List D} : useD [n, .tup a] = (nameD n && decide (a.length ≤ 2)) := rfl
theorem useD_len : ∀ {r : List D}, r.length ≠ 2 → useD r = false
  | [], _ => rfl
  | [_], _ => rfl
  | [_, _], h => absurd rfl h
  | _ :: _ :: _ :: _, _ => by simp only [useD]
theorem useD_n {a b : D} (h : nameD a = false) : useD [a, b] = false := by cases b <;> simp [useD, h]
def oneW (w : Str) (x : D) : Bool :=
  if w = "name" ∨ w = "hole" then nameD x else if w = "row" then itemsD true 6 x else if w = "lot" then itemsD false 4 x else loneW w || (decide (w = "is") && worthD x)
def formW (w : Str) (r : List D) : Bool :=
  if w = "any" then r.isEmpty
  else if pairW w then decide (r.length = 2)
  else if w = "use" then useD r
  else decide (r.length = 1) && oneW w (r.getD 0 .non)
def formD : D → Bool
  | .tup (.str w :: r) => formW w r
  | _ => false
def sndD : D → D
  | .tup [_, x] => x
  | _ => .non
def rowD : D → List D
  | .tup l => l
  | _ => []
def withinW (w : Str) (r : List D) : List D :=
  if pairW w || loneW w then r
  else if w = "row" ∨ w = "lot" then (rowD (r.getD 0 .non)).map sndD
  else if w = "use" then rowD (r.getD 1 .non)
  else []
def withinD : D → List D
  | .tup (.str w :: r) => withinW w r
  | _ => []
/-- parts told one after another -/
def addP (f : D → Nat) : List D → Nat → Nat
  | [], a => a
  | x :: l, a => if f x = 0 ∨ a + f x > 40 then 0 else addP f l (a + f x)
def partsW : Nat → D → Nat
  | 0, _ => 0
  | k + 1, d => if formD d then addP (partsW k) (withinD d) 1 else 0
def patD (d : D) : Bool := decide (0 < partsW 10 d)
theorem addP_eq {f : D → Nat} : ∀ {l : List D} {a : Nat}, 0 < a → a ≤ 40 → addP f l a = if (∀ x ∈ l, 0 < f x) ∧ a + (l.map f).sum ≤ 40 then a + (l.map f).sum else 0
  | [], a, h, h2 => by simp [addP, h2]
  | x :: l, a, h, h2 => by
    unfold addP
    by_cases c : f x = 0 ∨ a + f x > 40
    · rw [if_pos c, if_neg]
      rintro ⟨p, q⟩
      have := p x List.mem_cons_self
      simp only [List.map_cons, List.sum_cons] at q
      omega
    · rw [if_neg c, addP_eq (by omega) (by omega)]
      have p : 0 < f x := by omega
      simp only [List.map_cons, List.sum_cons, List.forall_mem_cons, p, true_and, Nat.add_assoc]
/-! ### words in rows of words -/
theorem inV_mem {w : Str} {ws : List Str} : inV (.str w) (ws.map V.str) = decide (w ∈ ws) := by
  show (ws.map V.str).any (fun y => eqV y (.str w)) = _
  have e : ∀ a : Str, eqV (.str a) (.str w) = decide (a = w) := fun a => by
    show (a == w) = _
    by_cases z : a = w <;> simp [z]
  rw [List.any_map, Bool.eq_iff_iff, List.any_eq_true, decide_eq_true_eq]
  constructor
  · rintro ⟨a, ha, q⟩
    rw [Function.comp, e, decide_eq_true_eq] at q
    exact q ▸ ha
  · intro hw
    exact ⟨w, hw, by rw [Function.comp, e]; simp⟩
theorem w_inW2 {x : Str} {ws : List Str} {y : R} {h : Hh} {Q : R → Hh → Prop} (e : sv h y = some (ws.map .str)) (hy : ∀ b, y ≠ .dat (.str b)) (p : Q (.dat (.bl (decide (x ∈ ws)))) h) : evX X (ofR h (cmpF h .isin (.dat (.str x)) y) fun b => R.dat (.bl b)) Q := by
  refine w_inS e hy ?_
  rw [inV_mem]; exact p
section
variable {C : Calls'} {G : Str → Option D} {env : Env'} {h : Hh} {Q : R → Hh → Prop}
theorem w_gget {x : Str} {kvs : List (Str × D)} {e : E} (p : evX X (evalE C G e env h) fun y h1 => evX X (Res.of h1 ((ggetF kvs y).map .dat)) Q) : evX X (evalE C G (.gget x kvs e) env h) Q := by
  have q : evalE C G (.gget x kvs e) env h = (evalE C G e env h).bind fun y h1 => Res.of h1 ((ggetF kvs y).map .dat) := by
    conv => lhs; unfold evalE
  rw [q]; simpa only [ev_bind] using p
theorem w_gin {x : Str} {kvs : List (Str × D)} {e : E} (p : evX X (evalE C G e env h) fun y h1 => evX X (Res.of h1 ((ginF kvs y).map fun b => R.dat (.bl b))) Q) : evX X (evalE C G (.gin x kvs e) env h) Q := by
  have q : evalE C G (.gin x kvs e) env h = (evalE C G e env h).bind fun y h1 => Res.of h1 ((ginF kvs y).map fun b => R.dat (.bl b)) := by
    conv => lhs; unfold evalE
  rw [q]; simpa only [ev_bind] using p
theorem w_ginR {w : Str} (p : Q (.dat (.bl (decide (w = "row") || decide (w = "lot")))) h) : evX X (Res.of h ((ginF mostItems (.dat (.str w))).map fun b => R.dat (.bl b))) Q := by
  refine w_of (a := .dat (.bl (decide (w = "row") || decide (w = "lot")))) ?_ p
  show some (R.dat (.bl (mostItems.lookup w).isSome)) = _
  have : (mostItems.lookup w).isSome = (decide (w = "row") || decide (w = "lot")) := by
    unfold mostItems
    by_cases c : w = "row"
    · subst c; decide +kernel
    · have c1 : (w == ("row" : Str)) = false := by simpa using c
      by_cases c2 : w = "lot"
      · subst c2; decide +kernel
      · have c3 : (w == ("lot" : Str)) = false := by simpa using c2
        simp only [List.lookup, c1, c3, decide_eq_false c, decide_eq_false c2]; rfl
  rw [this]
theorem w_eqT0 {l : List D} (p : Q (.dat (.bl l.isEmpty)) h) : evX X (ofR h (cmpF h .eq (.dat (.tup l)) (.dat (.tup []))) fun b => R.dat (.bl b)) Q := w_ofR (a := l.isEmpty) rfl p
end
end Mi
/-! Mi39: a pattern's form, walked. -/
namespace Mi
open PySem PySem.SeqAt PySem.Spec PyProof.Rows L2
variable {X : Exc → Hh → Prop}
/-- it can be looked at so deep, its texts are no longer than a thousand signs -/
def LoJ (h : Hh) : Nat → D → Prop
  | _, .str s => Wd 1000 s
  | k + 1, .tup l => ∀ x ∈ l, LoJ h k x
  | _, d => Mi.seen h d = true
def Lo (h : Hh) (d : D) : Prop := ∀ j, LoJ h j d
theorem Lo.inT {h : Hh} {l : List D} (o : Lo h (.tup l)) {x : D} (hx : x ∈ l) : Lo h x := fun j => o (j + 1) x hx
theorem Lo.tup {h : Hh} {l : List D} (o : ∀ x ∈ l, Lo h x) : Lo h (.tup l) := fun j => by
  cases j with
  | zero => exact rfl
  | succ j => exact fun x hx => o x hx j
theorem Lo.seen {h : Hh} {d : D} (o : Lo h d) : Mi.seen h d = true := by
  cases d with
  | str s => rfl
  | tup l => rfl
  | _ => exact o 0
theorem Lo.wd {h : Hh} {s : Str} (o : Lo h (.str s)) : Wd 1000 s := o 0
theorem LoJ.sn {h : Hh} : ∀ {j : Nat} {d : D}, LoJ h j d → Sn h j d
  | 0, .str s, o => (show Wd 1000 s from o).ok
  | j + 1, .str s, o => (show Wd 1000 s from o).ok
  | 0, .tup l, _ => rfl
  | j + 1, .tup l, o => fun x hx => LoJ.sn (o x hx)
  | 0, .non, _ => rfl
  | 0, .bl _, _ => rfl
  | 0, .int _, _ => rfl
  | 0, .lst _, _ => rfl
  | j + 1, .non, _ => rfl
  | j + 1, .bl _, _ => rfl
  | j + 1, .int _, _ => rfl
  | j + 1, .lst _, _ => rfl
  | 0, .arg _, o => o
  | j + 1, .arg _, o => o
  | 0, .ref _, o => o
  | j + 1, .ref _, o => o
  | 0, .sp _ _ _, o => o
  | j + 1, .sp _ _ _, o => o
theorem Lo.sn {h : Hh} {d : D} (o : Lo h d) (j : Nat) : Sn h j d := (o j).sn
section
variable {T : Tab} {G : Str → Option D} {n : Nat} {h : Hh} {d : D} {xw xp : Str}
theorem worthN_ok (W : WP T G xw xp) (s : Sn h 6 d) : run T G (n + 11) "is_worth" [d] h = .ok (.dat (.bl (worthD d))) h := by
  have g1 := W.gDeepW
  refine ev_eq (v_run W.worth rfl ?_)
  unfold fn_is_worthN
  simp only [Fn.env, List.map_cons, List.map_nil, Nat.reduceSub, List.replicate_succ, List.replicate_zero, List.cons_append, List.nil_append]
  walk_at "run"
  refine ev_of (size_ok W.toW1 6 n d s) ?_
  walk_at "run"
  refine ⟨?_, rfl⟩
  congr 2
  unfold worthD
  rw [Bool.eq_iff_iff, decide_eq_true_eq, decide_eq_true_eq]
  omega
theorem nameL_ok (W : WP T G xw xp) (o : Lo h d) : run T G (n + 1) "is_name" [d] h = .ok (.dat (.bl (nameD d))) h :=
  name_ok W.name W.gLetters W.gMost W.gBarred o.seen fun w e => by subst e; exact o.wd
/-- the items of a row, of a lot -/
theorem items_ok (W : WP T G xw xp) {w : Str} {row : Bool} {m : Nat} (hw : (w = "row" ∧ row = true ∧ m = 6) ∨ (w = "lot" ∧ row = false ∧ m = 4)) (o : Lo h d) : run T G (n + 1) "are_items" [.str w, d] h = .ok (.dat (.bl (itemsD row m d))) h := by
  have s0 := o.seen
  refine ev_eq (v_run W.items rfl ?_)
  unfold fn_are_items
  simp only [Fn.env, List.map_cons, List.map_nil, Nat.reduceSub, List.replicate_succ, List.replicate_zero, List.cons_append, List.nil_append]
  have gm : ggetF mostItems (.dat (.str w)) = some (.int (m : Nat)) := by
    rcases hw with ⟨rfl, _, rfl⟩ | ⟨rfl, _, rfl⟩ <;> rfl
  have r1 : decide (w = "row") = row := by rcases hw with ⟨rfl, rfl, _⟩ | ⟨rfl, rfl, _⟩ <;> decide +kernel
  have r2 : decide (w = "lot") = !row := by rcases hw with ⟨rfl, rfl, _⟩ | ⟨rfl, rfl, _⟩ <;> decide +kernel
  have m6 : m ≤ 6 := by omega
  walk_at "run"
  cases d with
  | tup l =>
    walk_at "run"
    refine w_gget ?_
    walk_at "run"
    refine w_of (a := .dat (.int (m : Nat))) (by rw [gm]; rfl) ?_
    walk_at "run"
    refine ev_br (fun h1 => ?_) (fun h1 => ?_)
    · walk_at "run"
      refine ⟨?_, rfl⟩
      simp only [decide_eq_true_eq] at h1
      show _ = R.dat (.bl (decide (l.length ≤ m) && itemsB row l))
      rw [decide_eq_false (by omega)]; rfl
    · simp only [decide_eq_false_iff_not] at h1
      have lm : l.length ≤ m := by omega
      have eD : itemsD row m (.tup l) = itemsB row l := by
        show (decide (l.length ≤ m) && itemsB row l) = _
        rw [decide_eq_true lm]; rfl
      rw [eD]
      have stop : ∀ (i : Nat) (x : D), l[i]? = some x → itemB row (decide (l.length ≤ i + 1)) x = false → itemsB row l = false := fun i x hx hf => by
        unfold itemsB
        rw [List.all_eq_false]
        have hi := (List.getElem?_eq_some_iff.mp hx).1
        refine ⟨i, List.mem_range.mpr hi, ?_⟩
        rw [List.getD_eq_getElem?_getD, hx]
        simpa using hf
      walk_at "run"
      refine w_ofR (a := l) rfl ?_
      refine ev_for (fun i e g => g = h ∧ (∃ s2 s3, e = [.val (.str w), .val (.tup l), s2, s3]) ∧ ∀ j, j < i → ∀ x, l[j]? = some x → itemB row (decide (l.length ≤ j + 1)) x = true) ⟨rfl, ⟨_, _, rfl⟩, fun j hj => by omega⟩ ?_ ?_
      · rintro i d e g hd ⟨rfl, ⟨s2, s3, rfl⟩, hall⟩
        obtain ⟨x, hx, rfl⟩ := enum_get hd
        have hi := (List.getElem?_eq_some_iff.mp hx).1
        have ox := o.inT (List.mem_of_getElem? hx)
        have x0 := ox.seen
        refine ⟨_, rfl, ?_⟩
        simp only [setV, List.set_cons_succ, List.set_cons_zero]
        have go : itemB row (decide (l.length ≤ i + 1)) x = true → ∀ j, j < i + 1 → ∀ x, l[j]? = some x → itemB row (decide (l.length ≤ j + 1)) x = true := fun q j hj y hy => by
          rcases Nat.lt_succ_iff_lt_or_eq.mp hj with hj | rfl
          · exact hall j hj y hy
          · rw [hx] at hy; cases hy; exact q
        have no := stop i x hx
        clear stop hd
        walk_at "run"
        refine w_isT x0 ?_
        cases x with
        | tup y =>
          have sy : ∀ z ∈ y, Lo g z := fun z hz => ox.inT hz
          show evX _ (notR (.dat (.bl true)) _) _
          walk_at "run"
          refine ev_br (fun h2 => ?_) (fun h2 => ?_)
          · rw [no (by
              match y, h2 with
              | [], _ => rfl
              | [_], _ => simp [itemB]
              | [_, _], h2 => simp at h2
              | _ :: _ :: _ :: _, _ => simp only [itemB])]
            walk_at "run"
            exact ⟨rfl, rfl⟩
          · match y, h2, sy, no, go with
            | [a, b], _, sy, no, go =>
              have a0 := (sy a (by simp)).seen
              walk_at "run"
              refine w_isS a0 ?_
              cases a with
              | str v =>
                show evX _ (notR (.dat (.bl true)) _) _
                have eB : ∀ z, itemB row z (.tup [.str v, b]) = (decide (v = "one") || (row && decide (v = "stretch")) || (!row && (z && decide (v = "rest")))) := fun _ => rfl
                rw [eB] at no go
                walk_at "run"
                refine w_neSt ?_
                by_cases c1 : v = "one"
                · rw [decide_eq_true c1, show (!true) = false from rfl]
                  walk_at "run"
                  exact ⟨rfl, ⟨_, _, rfl⟩, go (by rw [decide_eq_true c1]; rfl)⟩
                · rw [decide_eq_false c1, show (!false) = true from rfl]
                  rw [decide_eq_false c1] at no go
                  walk_at "run"
                  refine w_eqS ?_
                  by_cases c2 : v = "stretch"
                  · have c3 : ¬ v = "rest" := by rw [c2]; decide +kernel
                    rw [decide_eq_true c2]
                    rw [decide_eq_true c2, decide_eq_false c3] at no go
                    walk_at "run"
                    refine w_eqS ?_
                    rw [r1]
                    cases row with
                    | true =>
                      walk_at "run"
                      exact ⟨rfl, ⟨_, _, rfl⟩, go rfl⟩
                    | false =>
                      walk_at "run"
                      refine w_neSt ?_
                      rw [decide_eq_false c3, show (!false) = true from rfl]
                      rw [no (by simp)]
                      walk_at "run"
                      exact ⟨rfl, rfl⟩
                  · rw [decide_eq_false c2]
                    rw [decide_eq_false c2] at no go
                    walk_at "run"
                    refine w_neSt ?_
                    by_cases c3 : v = "rest"
                    · rw [decide_eq_true c3, show (!true) = false from rfl]
                      rw [decide_eq_true c3] at no go
                      walk_at "run"
                      refine w_neSt ?_
                      rw [r2]
                      cases row with
                      | true =>
                        rw [show (!!true) = true from rfl]
                        rw [no (by simp)]
                        walk_at "run"
                        exact ⟨rfl, rfl⟩
                      | false =>
                        rw [show (!!false) = false from rfl]
                        walk_at "run"
                        refine ev_br (fun h3 => ?_) (fun h3 => ?_)
                        · rw [no (by
                            simp only [decide_eq_true_eq] at h3
                            rw [decide_eq_false (by omega : ¬ l.length ≤ i + 1)]; rfl)]
                          walk_at "run"
                          exact ⟨rfl, rfl⟩
                        · simp only [decide_eq_false_iff_not] at h3
                          walk_at "run"
                          exact ⟨rfl, ⟨_, _, rfl⟩, go (by rw [decide_eq_true (by omega : l.length ≤ i + 1)]; rfl)⟩
                    · rw [decide_eq_false c3, show (!false) = true from rfl]
                      rw [decide_eq_false c3] at no go
                      rw [no (by cases row <;> simp)]
                      walk_at "run"
                      exact ⟨rfl, rfl⟩
              | _ =>
                show evX _ (notR (.dat (.bl false)) _) _
                rw [no (by simp only [itemB])]
                walk_at "run"
                exact ⟨rfl, rfl⟩
            | [], h2, _, _, _ => simp at h2
            | [_], h2, _, _, _ => simp at h2
            | _ :: _ :: _ :: _, h2, _, _, _ => simp at h2; omega
        | _ =>
          show evX _ (notR (.dat (.bl false)) _) _
          rw [no (by simp only [itemB])]
          walk_at "run"
          exact ⟨rfl, rfl⟩
      · rintro e g ⟨rfl, ⟨s2, s3, rfl⟩, hall⟩
        walk_at "run"
        refine ⟨?_, rfl⟩
        congr 2
        symm
        unfold itemsB
        rw [List.all_eq_true]
        intro i hi
        have hi := List.mem_range.mp hi
        rw [List.getD_eq_getElem?_getD, List.getElem?_eq_getElem hi]
        exact hall i (by rw [enum_length]; exact hi) _ (List.getElem?_eq_getElem hi)
  | _ =>
    walk_at "run"
    all_goals first
      | exact ⟨rfl, rfl⟩
      | (refine w_isT s0 ?_
         walk_at "run"
         exact ⟨rfl, rfl⟩)
end
end Mi
/-! Mi40: a pattern's form and parts, walked. -/
namespace Mi
open PySem PySem.SeqAt PySem.Spec PyProof.Rows L2
variable {X : Exc → Hh → Prop}
section
variable {w : Str} {r : List D} {a b x : D}
theorem atZ {y : D} {l : List D} : atI (y :: l) 0 = some y := atI_in (by omega) (by simp)
theorem fW_any (c : w = "any") : formW w r = r.isEmpty := by unfold formW; rw [if_pos c]
theorem fW_pair (c : ¬ w = "any") (p : pairW w = true) : formW w r = decide (r.length = 2) := by unfold formW; rw [if_neg c, if_pos p]
theorem fW_use (c : ¬ w = "any") (p : pairW w = false) (u : w = "use") : formW w r = useD r := by unfold formW; rw [if_neg c, if_neg (by rw [p]; decide), if_pos u]
theorem fW_one (c : ¬ w = "any") (p : pairW w = false) (u : ¬ w = "use") : formW w r = (decide (r.length = 1) && oneW w (r.getD 0 .non)) := by unfold formW; rw [if_neg c, if_neg (by rw [p]; decide), if_neg u]
end
section
variable {T : Tab} {G : Str → Option D} {n : Nat} {h : Hh} {d : D} {xw xp : Str}
theorem form_ok (W : WP T G xw xp) (o : Lo h d) : run T G (n + 13) "has_form" [d] h = .ok (.dat (.bl (formD d))) h := by
  have s0 := o.seen
  have g1 := W.gPairs
  have g2 := W.gLone
  have g3 := W.gArgs
  refine ev_eq (v_run W.form rfl ?_)
  unfold fn_has_form
  simp only [Fn.env, List.map_cons, List.map_nil, Nat.reduceSub, List.replicate_succ, List.replicate_zero, List.cons_append, List.nil_append]
  walk_at "run"
  cases d with
  | tup l =>
    walk_at "run"
    refine w_eqT0 ?_
    cases l with
    | nil =>
      rw [show ([] : List D).isEmpty = true from rfl]
      walk_at "run"
      exact ⟨rfl, rfl⟩
    | cons x r =>
      rw [show (x :: r).isEmpty = false from rfl]
      have x0 := (o.inT (x := x) (by simp)).seen
      have or : ∀ z ∈ r, Lo h z := fun z hz => o.inT (List.mem_cons_of_mem _ hz)
      walk_at "run"
      refine w_ixT atZ ?_
      walk_at "run"
      refine w_isS x0 ?_
      cases x with
      | str w =>
        show evX _ (notR (.dat (.bl true)) _) _
        rw [show formD (.tup (.str w :: r)) = formW w r from rfl]
        walk_at "run"
        refine w_ixT atZ ?_
        walk_at "run"
        refine w_eqS ?_
        by_cases c1 : w = "any"
        · rw [decide_eq_true c1, fW_any c1]
          walk_at "run"
          refine ⟨?_, rfl⟩
          congr 2
          rw [Bool.eq_iff_iff, decide_eq_true_eq, List.isEmpty_iff]
          cases r with
          | nil => simp
          | cons y r => simp; omega
        rw [decide_eq_false c1]
        walk_at "run"
        refine w_inW2 (ws := ["both", "either"]) rfl (fun _ z => by cases z) ?_
        cases c2 : pairW w with
        | true =>
          rw [show decide (w ∈ (["both", "either"] : List Str)) = true from c2, fW_pair c1 c2]
          walk_at "run"
          refine ⟨?_, rfl⟩
          congr 2
          rw [Bool.eq_iff_iff, decide_eq_true_eq, decide_eq_true_eq, List.length_cons]
          omega
        | false =>
        rw [show decide (w ∈ (["both", "either"] : List Str)) = false from c2]
        walk_at "run"
        refine w_eqS ?_
        by_cases c3 : w = "use"
        · rw [decide_eq_true c3, fW_use c1 c2 c3]
          walk_at "run"
          refine ev_br (fun h1 => ?_) (fun h1 => ?_)
          · simp only [decide_eq_true_eq, List.length_cons] at h1
            match r, h1, or with
            | [a, b], _, or =>
              have b0 := (or b (by simp)).seen
              walk_at "run"
              refine ev_of (nameL_ok (n := n + 11) W (or a (by simp))) ?_
              cases ha : nameD a with
              | false =>
                rw [useD_n ha]
                walk_at "run"
                exact ⟨rfl, rfl⟩
              | true =>
                walk_at "run"
                refine w_isT b0 ?_
                cases b with
                | tup z =>
                  show evX _ (brR (.dat (.bl true)) _ _) _
                  walk_at "run"
                  refine ⟨?_, rfl⟩
                  congr 2
                  rw [useD_t, ha, Bool.true_and, Bool.eq_iff_iff, decide_eq_true_eq, decide_eq_true_eq]
                  omega
                | _ =>
                  show evX _ (brR (.dat (.bl false)) _ _) _
                  walk_at "run"
                  exact ⟨rfl, rfl⟩
            | [], h1, _ => simp at h1
            | [_], h1, _ => simp at h1
            | _ :: _ :: _ :: _, h1, _ => simp at h1; omega
          · simp only [decide_eq_false_iff_not, List.length_cons] at h1
            walk_at "run"
            exact ⟨by rw [useD_len (by omega)], rfl⟩
        rw [decide_eq_false c3, fW_one c1 c2 c3]
        walk_at "run"
        refine ev_br (fun h1 => ?_) (fun h1 => ?_)
        · simp only [Bool.not_eq_true', decide_eq_false_iff_not, List.length_cons] at h1
          walk_at "run"
          exact ⟨by rw [decide_eq_false (by omega : ¬ r.length = 1)]; rfl, rfl⟩
        simp only [Bool.not_eq_false', decide_eq_true_eq, List.length_cons] at h1
        match r, h1, or with
        | [y], _, or =>
          have oy := or y (by simp)
          rw [show (decide ([y].length = 1) && oneW w ([y].getD 0 .non)) = oneW w y from rfl]
          unfold oneW
          walk_at "run"
          refine w_inW2 (ws := ["name", "hole"]) rfl (fun _ z => by cases z) ?_
          by_cases c4 : w = "name" ∨ w = "hole"
          · rw [decide_eq_true (show w ∈ (["name", "hole"] : List Str) by simpa using c4)]
            simp only [if_pos c4]
            walk_at "run"
            refine ev_of (nameL_ok (n := n + 11) W oy) ?_
            walk_at "run"
            exact ⟨rfl, rfl⟩
          rw [decide_eq_false (show ¬ w ∈ (["name", "hole"] : List Str) by simpa using c4)]
          simp only [if_neg c4]
          walk_at "run"
          refine w_gin ?_
          walk_at "run"
          refine w_ginR ?_
          by_cases c5 : w = "row"
          · rw [decide_eq_true c5]
            simp only [if_pos c5]
            rw [show (true || decide (w = "lot")) = true from rfl]
            walk_at "run"
            refine ev_of (items_ok (n := n + 11) W (.inl ⟨c5, rfl, rfl⟩) oy) ?_
            walk_at "run"
            exact ⟨rfl, rfl⟩
          rw [decide_eq_false c5]
          simp only [if_neg c5]
          by_cases c6 : w = "lot"
          · rw [decide_eq_true c6]
            simp only [if_pos c6]
            rw [show (false || true) = true from rfl]
            walk_at "run"
            refine ev_of (items_ok (n := n + 11) W (.inr ⟨c6, rfl, rfl⟩) oy) ?_
            walk_at "run"
            exact ⟨rfl, rfl⟩
          rw [decide_eq_false c6]
          simp only [if_neg c6]
          rw [show (false || false) = false from rfl]
          walk_at "run"
          refine w_inW2 (ws := ["not", "first", "turned", "all"]) rfl (fun _ z => by cases z) ?_
          cases c7 : loneW w with
          | true =>
            rw [show decide (w ∈ (["not", "first", "turned", "all"] : List Str)) = true from c7]
            walk_at "run"
            exact ⟨rfl, rfl⟩
          | false =>
            rw [show decide (w ∈ (["not", "first", "turned", "all"] : List Str)) = false from c7]
            walk_at "run"
            refine w_eqS ?_
            by_cases c8 : w = "is"
            · rw [decide_eq_true c8]
              walk_at "run"
              refine ev_of (worthN_ok (n := n + 1) W (oy.sn 6)) ?_
              walk_at "run"
              exact ⟨rfl, rfl⟩
            · rw [decide_eq_false c8]
              walk_at "run"
              exact ⟨rfl, rfl⟩
        | [], h1, _ => simp at h1
        | _ :: _ :: _, h1, _ => simp at h1; omega
      | _ =>
        show evX _ (notR (.dat (.bl false)) _) _
        walk_at "run"
        exact ⟨rfl, rfl⟩
  | _ =>
    walk_at "run"
    all_goals first
      | exact ⟨rfl, rfl⟩
      | (refine w_isT s0 ?_
         walk_at "run"
         exact ⟨rfl, rfl⟩)
end
end Mi
/-! Mi41: a pattern's parts, walked. -/
namespace Mi
open PySem PySem.SeqAt PySem.Spec PyProof.Rows L2
variable {X : Exc → Hh → Prop}
theorem addP_cons {f : D → Nat} {x : D} {l : List D} {a : Nat} : addP f (x :: l) a = if f x = 0 ∨ a + f x > 40 then 0 else addP f l (a + f x) := rfl
theorem cut_1 {x : D} {l : List D} : cutD (x :: l) (some 1) none = l := by rw [cut_from (by omega)]; rfl
theorem w_toL2 {l : List D} {h : Hh} {Q : R → Hh → Prop} (p : Q (.new l) h) : evX X (Res.of h (bltF h .toList [.tup l])) Q := w_of rfl p
theorem items_two {row : Bool} {l : List D} (e : itemsB row l = true) : ∀ x ∈ l, ∃ v y, x = .tup [.str v, y] := fun x hx => by
  obtain ⟨i, hi, rfl⟩ := List.mem_iff_getElem.mp hx
  have := List.all_eq_true.mp e i (List.mem_range.mpr hi)
  rw [List.getD_eq_getElem?_getD, List.getElem?_eq_getElem hi] at this
  generalize l[i] = x at this
  match x, this with
  | .tup [.str v, y], _ => exact ⟨v, y, rfl⟩
theorem form_shape {d : D} (f : formD d = true) : ∃ w r, d = .tup (.str w :: r) ∧ formW w r = true := by
  match d, f with
  | .tup (.str w :: r), f => exact ⟨w, r, rfl, f⟩
theorem form_items {w : Str} {r : List D} (f : formW w r = true) (c : w = "row" ∨ w = "lot") : ∃ l row, r = [.tup l] ∧ itemsB row l = true ∧ l.length ≤ 6 := by
  have n1 : ¬ w = "any" := by rcases c with rfl | rfl <;> decide +kernel
  have n2 : pairW w = false := by rcases c with rfl | rfl <;> decide +kernel
  have n3 : ¬ w = "use" := by rcases c with rfl | rfl <;> decide +kernel
  have n4 : ¬ (w = "name" ∨ w = "hole") := by rcases c with rfl | rfl <;> decide +kernel
  rw [fW_one n1 n2 n3, Bool.and_eq_true, decide_eq_true_eq] at f
  match r, f with
  | [y], f =>
    have f := f.2
    rw [show ([y] : List D).getD 0 .non = y from rfl] at f
    unfold oneW at f
    rw [if_neg n4] at f
    have it : ∀ row m, m ≤ 6 → itemsD row m y = true → ∃ l row, [y] = [D.tup l] ∧ itemsB row l = true ∧ l.length ≤ 6 := fun row m hm e => by
      cases y with
      | tup l =>
        have e : (decide (l.length ≤ m) && itemsB row l) = true := e
        rw [Bool.and_eq_true, decide_eq_true_eq] at e
        exact ⟨l, row, rfl, e.2, by omega⟩
      | _ => cases e
    by_cases c5 : w = "row"
    · rw [if_pos c5] at f; exact it _ _ (by omega) f
    · have c6 : w = "lot" := c.resolve_left c5
      rw [if_neg c5, if_pos c6] at f
      exact it _ _ (by omega) f
  | [], f => simp at f
  | _ :: _ :: _, f => simp at f
theorem form_use {w : Str} {r : List D} (f : formW w r = true) (c : w = "use") : ∃ n a, r = [n, .tup a] ∧ a.length ≤ 2 := by
  subst c
  rw [fW_use (by decide +kernel) (by decide +kernel) rfl] at f
  match r, f with
  | [n, .tup a], f =>
    rw [useD_t, Bool.and_eq_true, decide_eq_true_eq] at f
    exact ⟨n, a, rfl, f.2⟩
section
variable {T : Tab} {G : Str → Option D} {n : Nat} {h : Hh} {d : D} {xw xp : Str}
theorem within_ok (W : WP T G xw xp) (f : formD d = true) : run T G (n + 1) "within" [d] h = .ok (.new (withinD d)) h := by
  have g1 := W.gPairs
  have g2 := W.gLone
  obtain ⟨w, r, rfl, fw⟩ := form_shape f
  rw [show withinD (.tup (.str w :: r)) = withinW w r from rfl]
  refine ev_eq (v_run W.within rfl ?_)
  unfold fn_within
  simp only [Fn.env, List.map_cons, List.map_nil, Nat.reduceSub, List.replicate_succ, List.replicate_zero, List.cons_append, List.nil_append]
  walk_at "run"
  refine w_ixT atZ ?_
  walk_at "run"
  refine w_inW2 (ws := ["both", "either"]) rfl (fun _ z => by cases z) ?_
  rw [show decide (w ∈ (["both", "either"] : List Str)) = pairW w from rfl]
  cases c1 : pairW w with
  | true =>
    have e : withinW w r = r := by unfold withinW; rw [c1]; rfl
    rw [e]
    walk_at "run"
    rw [cut_1]
    refine w_toL2 ?_
    walk_at "run"
    exact ⟨rfl, rfl⟩
  | false =>
  walk_at "run"
  refine w_inW2 (ws := ["not", "first", "turned", "all"]) rfl (fun _ z => by cases z) ?_
  rw [show decide (w ∈ (["not", "first", "turned", "all"] : List Str)) = loneW w from rfl]
  cases c2 : loneW w with
  | true =>
    have e : withinW w r = r := by unfold withinW; rw [c1, c2]; rfl
    rw [e]
    walk_at "run"
    rw [cut_1]
    refine w_toL2 ?_
    walk_at "run"
    exact ⟨rfl, rfl⟩
  | false =>
  have e0 : withinW w r = if w = "row" ∨ w = "lot" then (rowD (r.getD 0 .non)).map sndD else if w = "use" then rowD (r.getD 1 .non) else [] := by
    unfold withinW; rw [c1, c2]; rfl
  rw [e0]
  walk_at "run"
  refine w_gin ?_
  walk_at "run"
  refine w_ginR ?_
  by_cases c3 : w = "row" ∨ w = "lot"
  · obtain ⟨l, row, rfl, hi, l6⟩ := form_items fw c3
    rw [if_pos c3, show (decide (w = "row") || decide (w = "lot")) = true by rcases c3 with rfl | rfl <;> decide +kernel]
    walk_at "run"
    have fact : ∀ s2, compR (run T G n) G [2] (.nm 2) (.con (.bl true)) (.ix (.var 2) (.con (.int 1))) [.val (.tup [.str w, .tup l]), .val (.str w), s2] l h = .ok (.new (l.map sndD)) h := fun s2 => by
      unfold compR
      rw [comp_map sndD (by rw [sizeLine_eq]; simp only [List.length_nil]; omega) fun x hx => ?_]
      · rw [List.nil_append]
      · obtain ⟨v, y, rfl⟩ := items_two hi x hx
        refine ev_eq ?_
        show evX _ (compG _ _ _ _ _ h) _
        simp only [setV, wipeE, List.set_cons_succ, List.set_cons_zero]
        walk_at "run"
        exact ⟨rfl, rfl⟩
    rw [fact]
    walk_at "run"
    exact ⟨rfl, rfl⟩
  · rw [if_neg c3, show (decide (w = "row") || decide (w = "lot")) = false by simpa using c3]
    walk_at "run"
    refine w_eqS ?_
    by_cases c4 : w = "use"
    · obtain ⟨nm, a, rfl, _⟩ := form_use fw c4
      rw [if_pos c4, decide_eq_true c4]
      walk_at "run"
      refine w_toL2 ?_
      walk_at "run"
      exact ⟨rfl, rfl⟩
    · rw [if_neg c4, decide_eq_false c4]
      walk_at "run"
      exact ⟨rfl, rfl⟩
theorem Lo.within (o : Lo h d) (f : formD d = true) : ∀ x ∈ withinD d, Lo h x := by
  obtain ⟨w, r, rfl, fw⟩ := form_shape f
  have or : ∀ z ∈ r, Lo h z := fun z hz => o.inT (List.mem_cons_of_mem _ hz)
  show ∀ x ∈ withinW w r, Lo h x
  unfold withinW
  split
  · exact or
  split
  · rename_i c
    obtain ⟨l, row, rfl, hi, l6⟩ := form_items fw c
    intro x hx
    obtain ⟨y, hy, rfl⟩ := List.mem_map.mp hx
    have hy : y ∈ l := hy
    obtain ⟨v, z, rfl⟩ := items_two hi y hy
    exact ((or (.tup l) (by simp)).inT hy).inT (by simp [sndD])
  split
  · rename_i c
    obtain ⟨nm, a, rfl, _⟩ := form_use fw c
    intro x hx
    exact (or (.tup a) (by simp)).inT hx
  · intro x hx; cases hx
theorem parts_ok (W : WP T G xw xp) : ∀ (k n : Nat) (d : D), Lo h d → run T G (n + k + 14) "parts_within" [d, .int (k : Nat)] h = .ok (.dat (.int (partsW k d : Nat))) h := by
  intro k
  have gp := W.gParts
  induction k with
  | zero =>
    intro n d o
    refine ev_eq (v_run W.parts rfl ?_)
    unfold fn_parts_within
    simp only [Fn.env, List.map_cons, List.map_nil, Nat.reduceSub, List.replicate_succ, List.replicate_zero, List.cons_append, List.nil_append]
    walk_at "run"
    exact ⟨rfl, rfl⟩
  | succ k ih =>
    intro n d o
    refine ev_eq (v_run W.parts rfl ?_)
    unfold fn_parts_within
    simp only [Fn.env, List.map_cons, List.map_nil, Nat.reduceSub, List.replicate_succ, List.replicate_zero, List.cons_append, List.nil_append]
    walk_at "run"
    refine ev_of (form_ok (n := n + k + 1) W o) ?_
    rw [show partsW (k + 1) d = if formD d then addP (partsW k) (withinD d) 1 else 0 from rfl]
    cases hf : formD d with
    | false =>
      walk_at "run"
      exact ⟨rfl, rfl⟩
    | true =>
      rw [if_pos rfl]
      walk_at "run"
      refine ev_of (within_ok (n := n + k + 13) W hf) ?_
      have ow := o.within hf
      generalize withinD d = l at ow
      walk_at "run"
      refine ev_for (fun i e g => g = h ∧ ∃ (a : Nat) (s3 s4 : Slot), e = [.val d, .val (.int ((k + 1 : Nat) : Int)), .val (.int (a : Nat)), s3, s4] ∧ addP (partsW k) (l.drop i) a = addP (partsW k) l 1) ⟨rfl, 1, _, _, rfl, rfl⟩ ?_ ?_
      · rintro i x e g hx ⟨rfl, a, s3, s4, rfl, ha⟩
        refine ⟨_, rfl, ?_⟩
        simp only [setV, List.set_cons_succ, List.set_cons_zero]
        rw [show l.drop i = x :: l.drop (i + 1) by rw [← (List.getElem?_eq_some_iff.mp hx).2, List.getElem_cons_drop], addP_cons] at ha
        walk_at "run"
        rw [show ((k + 1 : Nat) : Int) - 1 = (k : Nat) by omega]
        refine ev_of (ih n x (ow x (List.mem_of_getElem? hx))) ?_
        by_cases c1 : partsW k x = 0
        · rw [if_pos (.inl c1)] at ha
          rw [← ha]
          walk_at "run"
          exact ⟨rfl, rfl⟩
        · by_cases c2 : a + partsW k x > 40
          · skip
            rw [if_pos (.inr c2)] at ha
            rw [← ha]
            walk_at "run"
            exact ⟨rfl, rfl⟩
          · skip
            rw [if_neg (by omega)] at ha
            walk_at "run"
            exact ⟨rfl, a + partsW k x, _, _, by rw [show ((a + partsW k x : Nat) : Int) = (a : Int) + (partsW k x : Nat) by omega], ha⟩
      · rintro e g ⟨rfl, a, s3, s4, rfl, ha⟩
        rw [List.drop_length] at ha
        rw [← ha]
        walk_at "run"
        exact ⟨rfl, rfl⟩
theorem pattern_ok (W : WP T G xw xp) (o : Lo h d) : run T G (n + 25) "is_pattern" [d] h = .ok (.dat (.bl (patD d))) h := by
  have g1 := W.gDeepP
  refine ev_eq (v_run W.pattern rfl ?_)
  unfold fn_is_pattern
  simp only [Fn.env, List.map_cons, List.map_nil, Nat.reduceSub, List.replicate_succ, List.replicate_zero, List.cons_append, List.nil_append]
  walk_at "run"
  refine ev_of (parts_ok (h := h) W 10 n d o) ?_
  walk_at "run"
  refine ⟨?_, rfl⟩
  congr 2
  unfold patD
  rw [Bool.eq_iff_iff, decide_eq_true_eq, decide_eq_true_eq]
  omega
end
end Mi
/-! Mi42: the laws' own look at patterns. -/
namespace Mi
open PySem PySem.SeqAt PySem.Spec PyProof.Rows L2
variable {X : Exc → Hh → Prop}
def fn__law_is_name : Fn := ⟨1, 3, (.cons (.asg 1 (.mth .split (.con (.str "any is name both either not first row lot turned all use hole one stretch rest rule end")) (.cons (.con (.str " ")) .nil))) (.cons (.ifs (.or2 (.not1 (.isi (.var 0) .str)) (.or2 (.not1 (.chain .le .le (.con (.int 1)) (.blt .len (.cons (.var 0) .nil)) (.con (.int 6)))) (.cmp .isin (.var 0) (.var 1)))) (.cons (.ret (.con (.bl false))) .nil) .nil) (.cons (.ret (.cmp .eq (.comp [2] (.nm 2) (.seq (.var 0)) (.cmp .notin (.var 2) (.con (.str "abcdefghijklmnopqrstuvwxyz"))) (.var 2)) (.lst .nil))) .nil)))⟩
def fn__law_size : Fn := ⟨2, 3, (.cons (.ifs (.and2 (.isi (.var 0) .int) (.and2 (.not1 (.isi (.var 0) .bool)) (.cmp .gt (.var 1) (.con (.int 0))))) (.cons (.ret (.ite (.chain .le .le (.con (.int 0)) (.var 0) (.con (.int 99))) (.con (.int 1)) (.con (.int 100)))) .nil) .nil) (.cons (.ifs (.or2 (.not1 (.isi (.var 0) .tuple)) (.or2 (.cmp .eq (.var 1) (.con (.int 0))) (.cmp .gt (.blt .len (.cons (.var 0) .nil)) (.con (.int 10))))) (.cons (.ret (.con (.int 100))) .nil) .nil) (.cons (.ret (.bin .add (.con (.int 1)) (.blt .sum (.cons (.comp [2] (.nm 2) (.seq (.var 0)) (.con (.bl true)) (.call "_law_size" (.cons (.var 2) (.cons (.bin .sub (.var 1) (.con (.int 1))) .nil)))) .nil)))) .nil)))⟩
def fn__law_inner : Fn := ⟨2, 6, (.cons (.ifs (.cmp .isin (.var 0) (.tup (.cons (.con (.str "both")) (.cons (.con (.str "either")) .nil)))) (.cons (.ret (.ite (.cmp .eq (.blt .len (.cons (.var 1) .nil)) (.con (.int 2))) (.blt .toList (.cons (.var 1) .nil)) (.con .non))) .nil) .nil) (.cons (.ifs (.cmp .isin (.var 0) (.tup (.cons (.con (.str "not")) (.cons (.con (.str "first")) (.cons (.con (.str "turned")) (.cons (.con (.str "all")) .nil)))))) (.cons (.ret (.ite (.cmp .eq (.blt .len (.cons (.var 1) .nil)) (.con (.int 1))) (.blt .toList (.cons (.var 1) .nil)) (.con .non))) .nil) .nil) (.cons (.ifs (.cmp .eq (.var 0) (.con (.str "use"))) (.cons (.asg 2 (.and2 (.cmp .eq (.blt .len (.cons (.var 1) .nil)) (.con (.int 2))) (.and2 (.call "_law_is_name" (.cons (.ix (.var 1) (.con (.int 0))) .nil)) (.and2 (.isi (.ix (.var 1) (.con (.int 1))) .tuple) (.cmp .lt (.blt .len (.cons (.ix (.var 1) (.con (.int 1))) .nil)) (.con (.int 3))))))) (.cons (.ret (.ite (.var 2) (.blt .toList (.cons (.ix (.var 1) (.con (.int 1))) .nil)) (.con .non))) .nil)) .nil) (.cons (.ifs (.or2 (.cmp .notin (.var 0) (.tup (.cons (.con (.str "row")) (.cons (.con (.str "lot")) .nil)))) (.or2 (.cmp .ne (.blt .len (.cons (.var 1) .nil)) (.con (.int 1))) (.not1 (.isi (.ix (.var 1) (.con (.int 0))) .tuple)))) (.cons (.ret (.con .non)) .nil) .nil) (.cons (.for' (.tp [3, 4]) (.enum (.ix (.var 1) (.con (.int 0)))) (.cons (.ifs (.or2 (.not1 (.isi (.var 4) .tuple)) (.or2 (.cmp .ne (.blt .len (.cons (.var 4) .nil)) (.con (.int 2))) (.not1 (.isi (.ix (.var 4) (.con (.int 0))) .str)))) (.cons (.ret (.con .non)) .nil) .nil) (.cons (.asg 5 (.ite (.cmp .eq (.var 0) (.con (.str "row"))) (.lst (.cons (.con (.str "stretch")) .nil)) (.bin .mul (.lst (.cons (.con (.str "rest")) .nil)) (.blt .toInt (.cons (.cmp .eq (.var 3) (.bin .sub (.blt .len (.cons (.ix (.var 1) (.con (.int 0))) .nil)) (.con (.int 1)))) .nil))))) (.cons (.ifs (.cmp .notin (.ix (.var 4) (.con (.int 0))) (.bin .add (.lst (.cons (.con (.str "one")) .nil)) (.var 5))) (.cons (.ret (.con .non)) .nil) .nil) .nil)))) (.cons (.ret (.ite (.cmp .lt (.blt .len (.cons (.ix (.var 1) (.con (.int 0))) .nil)) (.ix (.lst (.cons (.con (.int 5)) (.cons (.con (.int 7)) .nil))) (.blt .toInt (.cons (.cmp .eq (.var 0) (.con (.str "row"))) .nil)))) (.comp [4] (.nm 4) (.seq (.ix (.var 1) (.con (.int 0)))) (.con (.bl true)) (.ix (.var 4) (.con (.int 1)))) (.con .non))) .nil))))))⟩
def fn__law_parts : Fn := ⟨2, 6, (.cons (.ifs (.or2 (.cmp .eq (.var 1) (.con (.int 0))) (.or2 (.not1 (.isi (.var 0) .tuple)) (.or2 (.cmp .eq (.var 0) (.tup .nil)) (.not1 (.isi (.ix (.var 0) (.con (.int 0))) .str))))) (.cons (.ret (.con (.int 100))) .nil) .nil) (.cons (.asgs [2, 3] (.tup (.cons (.ix (.var 0) (.con (.int 0))) (.cons (.sl (.var 0) (.part (.con (.int 1))) .no) .nil)))) (.cons (.ifs (.cmp .eq (.var 2) (.con (.str "any"))) (.cons (.ret (.ite (.cmp .eq (.var 3) (.tup .nil)) (.con (.int 1)) (.con (.int 100)))) .nil) .nil) (.cons (.ifs (.cmp .isin (.var 2) (.tup (.cons (.con (.str "is")) (.cons (.con (.str "name")) (.cons (.con (.str "hole")) .nil))))) (.cons (.ifs (.cmp .ne (.blt .len (.cons (.var 3) .nil)) (.con (.int 1))) (.cons (.ret (.con (.int 100))) .nil) .nil) (.cons (.ret (.ite (.ite (.cmp .eq (.var 2) (.con (.str "is"))) (.cmp .lt (.call "_law_size" (.cons (.ix (.var 3) (.con (.int 0))) (.cons (.con (.int 6)) .nil))) (.con (.int 61))) (.call "_law_is_name" (.cons (.ix (.var 3) (.con (.int 0))) .nil))) (.con (.int 1)) (.con (.int 100)))) .nil)) .nil) (.cons (.asg 4 (.call "_law_inner" (.cons (.var 2) (.cons (.var 3) .nil)))) (.cons (.ret (.ite (.cmp .is (.var 4) (.con .non)) (.con (.int 100)) (.bin .add (.con (.int 1)) (.blt .sum (.cons (.comp [5] (.nm 5) (.seq (.var 4)) (.con (.bl true)) (.call "_law_parts" (.cons (.var 5) (.cons (.bin .sub (.var 1) (.con (.int 1))) .nil)))) .nil))))) .nil))))))⟩
theorem bars_split : Txt.split "any is name both either not first row lot turned all use hole one stretch rest rule end" " " = barred := by decide +kernel
def sizeL : Nat → D → Nat
  | 0, _ => 100
  | k + 1, d => match d with
    | .int i => if 0 ≤ i ∧ i ≤ 99 then 1 else 100
    | .tup l => if l.length ≤ 10 then 1 + (l.map (sizeL k)).sum else 100
    | _ => 100
theorem sum_ge {f : D → Nat} : ∀ {l : List D} {x : D}, x ∈ l → f x ≤ (l.map f).sum
  | y :: l, x, h => by
    simp only [List.map_cons, List.sum_cons]
    rcases List.mem_cons.mp h with rfl | h
    · omega
    · have := sum_ge (f := f) h; omega
theorem sizeL_W : ∀ (k : Nat) (d : D), (0 < sizeW k d → sizeL k d = sizeW k d) ∧ (sizeW k d = 0 → 61 ≤ sizeL k d)
  | 0, d => ⟨fun h => by simp [sizeW] at h, fun _ => by show 61 ≤ 100; omega⟩
  | k + 1, .int i => by
    have e : sizeW (k + 1) (.int i) = if 0 ≤ i ∧ i ≤ 99 then 1 else 0 := by
      show (if leafD (.int i) = true then 1 else 0) = _
      show (if (decide (0 ≤ i) && decide (i ≤ 99)) = true then 1 else 0) = _
      by_cases c : 0 ≤ i ∧ i ≤ 99 <;> simp [c]
    rw [e]
    show (_ → (if 0 ≤ i ∧ i ≤ 99 then 1 else 100) = _) ∧ (_ → 61 ≤ if 0 ≤ i ∧ i ≤ 99 then 1 else 100)
    by_cases c : 0 ≤ i ∧ i ≤ 99 <;> simp [c]
  | k + 1, .tup l => by
    have e : sizeW (k + 1) (.tup l) = if l.length ≤ 10 ∧ (∀ x ∈ l, 0 < sizeW k x) ∧ 1 + (l.map (sizeW k)).sum ≤ 60 then 1 + (l.map (sizeW k)).sum else 0 := size_tup
    have ih := fun x => sizeL_W k x
    rw [e]
    show (_ → (if l.length ≤ 10 then 1 + (l.map (sizeL k)).sum else 100) = _) ∧ (_ → 61 ≤ if l.length ≤ 10 then 1 + (l.map (sizeL k)).sum else 100)
    by_cases c1 : l.length ≤ 10
    · rw [if_pos c1]
      by_cases c2 : ∀ x ∈ l, 0 < sizeW k x
      · have es : l.map (sizeL k) = l.map (sizeW k) := List.map_congr_left fun x hx => (ih x).1 (c2 x hx)
        rw [es]
        by_cases c3 : 1 + (l.map (sizeW k)).sum ≤ 60
        · rw [if_pos ⟨c1, c2, c3⟩]
          exact ⟨fun _ => rfl, fun h => by omega⟩
        · rw [if_neg (fun z => c3 z.2.2)]
          exact ⟨fun h => by omega, fun _ => by omega⟩
      · rw [if_neg (fun z => c2 z.2.1)]
        refine ⟨fun h => by omega, fun _ => ?_⟩
        obtain ⟨x, hx, nx⟩ : ∃ x ∈ l, ¬ 0 < sizeW k x := by
          refine Classical.byContradiction fun q => c2 fun x hx => ?_
          exact Classical.byContradiction fun p => q ⟨x, hx, p⟩
        have := (ih x).2 (by omega)
        have := sum_ge (f := sizeL k) hx
        omega
    · rw [if_neg c1, if_neg (fun z => c1 z.1)]
      exact ⟨fun h => by omega, fun _ => by omega⟩
  | k + 1, .non => ⟨fun h => by simp [sizeW, leafD, among, whole] at h, fun _ => by show 61 ≤ 100; omega⟩
  | k + 1, .bl b => ⟨fun h => by simp [sizeW, leafD, among, whole] at h, fun _ => by show 61 ≤ 100; omega⟩
  | k + 1, .str b => ⟨fun h => by simp [sizeW, leafD, among, whole] at h, fun _ => by show 61 ≤ 100; omega⟩
  | k + 1, .lst b => ⟨fun h => by simp [sizeW, leafD, among, whole] at h, fun _ => by show 61 ≤ 100; omega⟩
  | k + 1, .arg b => ⟨fun h => by simp [sizeW, leafD, among, whole] at h, fun _ => by show 61 ≤ 100; omega⟩
  | k + 1, .ref b => ⟨fun h => by simp [sizeW, leafD, among, whole] at h, fun _ => by show 61 ≤ 100; omega⟩
  | k + 1, .sp a b c => ⟨fun h => by simp [sizeW, leafD, among, whole] at h, fun _ => by show 61 ≤ 100; omega⟩
theorem sizeL_iff {d : D} : decide (((sizeL 6 d : Nat) : Int) < 61) = worthD d := by
  have := sizeL_W 6 d
  unfold worthD
  rw [Bool.eq_iff_iff, decide_eq_true_eq, decide_eq_true_eq]
  constructor
  · intro h
    refine Classical.byContradiction fun q => ?_
    have := this.2 (by omega)
    omega
  · intro h
    have e := this.1 h
    have := size_max (k := 6) (d := d)
    omega
def partsL : Nat → D → Nat
  | 0, _ => 100
  | k + 1, d => if formD d then 1 + ((withinD d).map (partsL k)).sum else 100
theorem partsL_W : ∀ (k : Nat) (d : D), (0 < partsW k d → partsL k d = partsW k d ∧ partsW k d ≤ 40) ∧ (partsW k d = 0 → 41 ≤ partsL k d)
  | 0, d => ⟨fun h => by simp [partsW] at h, fun _ => by show 41 ≤ 100; omega⟩
  | k + 1, d => by
    have ih := fun x => partsL_W k x
    show (0 < (if formD d then addP (partsW k) (withinD d) 1 else 0) → (if formD d then 1 + ((withinD d).map (partsL k)).sum else 100) = _ ∧ _) ∧ (_ → 41 ≤ if formD d then 1 + ((withinD d).map (partsL k)).sum else 100)
    rw [show partsW (k + 1) d = if formD d then addP (partsW k) (withinD d) 1 else 0 from rfl]
    cases formD d with
    | false => exact ⟨fun h => absurd h (by simp), fun _ => by show 41 ≤ 100; omega⟩
    | true =>
      simp only [if_true]
      rw [addP_eq (by omega) (by omega)]
      generalize withinD d = l
      by_cases c2 : ∀ x ∈ l, 0 < partsW k x
      · have es : l.map (partsL k) = l.map (partsW k) := List.map_congr_left fun x hx => ((ih x).1 (c2 x hx)).1
        rw [es]
        by_cases c3 : 1 + (l.map (partsW k)).sum ≤ 40
        · rw [if_pos ⟨c2, c3⟩]
          exact ⟨fun _ => ⟨rfl, c3⟩, fun h => by omega⟩
        · rw [if_neg (fun z => c3 z.2)]
          exact ⟨fun h => by omega, fun _ => by omega⟩
      · rw [if_neg (fun z => c2 z.1)]
        refine ⟨fun h => by omega, fun _ => ?_⟩
        obtain ⟨x, hx, nx⟩ : ∃ x ∈ l, ¬ 0 < partsW k x := by
          refine Classical.byContradiction fun q => c2 fun x hx => ?_
          exact Classical.byContradiction fun p => q ⟨x, hx, p⟩
        have := (ih x).2 (by omega)
        have := sum_ge (f := partsL k) hx
        omega
theorem partsL_iff {d : D} : decide (((partsL 10 d : Nat) : Int) < 41) = patD d := by
  have := partsL_W 10 d
  unfold patD
  rw [Bool.eq_iff_iff, decide_eq_true_eq, decide_eq_true_eq]
  constructor
  · intro h
    refine Classical.byContradiction fun q => ?_
    have := this.2 (by omega)
    omega
  · intro h
    have := this.1 h
    omega
end Mi
/-! Mi43: the laws' own look at patterns, walked. -/
namespace Mi
open PySem PySem.SeqAt PySem.Spec PyProof.Rows L2
variable {X : Exc → Hh → Prop}
section
variable {T : Tab} {G : Str → Option D} {n : Nat} {h : Hh} {d : D}
theorem w_splitBars {Q : R → Hh → Prop} (p : Q (.new (barred.map .str)) h) : evX X (Res.of h (mthF .split "any is name both either not first row lot turned all use hole one stretch rest rule end" [.str " "])) Q := by
  refine w_of (a := .new (barred.map .str)) ?_ p
  rw [show mthF .split = splitF from rfl]
  simp only [splitF]
  rw [if_pos (by decide +kernel), bars_split]
theorem lname_ok (hT : T "_law_is_name" = some fn__law_is_name) (o : Lo h d) : run T G (n + 1) "_law_is_name" [d] h = .ok (.dat (.bl (nameD d))) h := by
  have s0 := o.seen
  refine ev_eq (v_run hT rfl ?_)
  unfold fn__law_is_name
  simp only [Fn.env, List.map_cons, List.map_nil, Nat.reduceSub, List.replicate_succ, List.replicate_zero, List.cons_append, List.nil_append]
  walk_at "run"
  refine w_splitBars ?_
  walk_at "run"
  refine w_isS s0 ?_
  cases d with
  | str w =>
    have wd := o.wd
    show evX _ (notR (.dat (.bl true)) _) _
    rw [show nameD (.str w) = nameS w from rfl]
    walk_at "run"
    refine w_lenS wd (by decide) ?_
    walk_at "run"
    have rng : ∀ b1 b2 : Bool, decide (1 ≤ (w.length : Int)) = b1 → decide ((w.length : Int) ≤ 6) = b2 → nameS w = (b1 && b2 && !inV (.str w) (barred.map V.str) && signs w) := fun b1 b2 e1 e2 => by unfold nameS; rw [e1, e2]
    refine ev_br (fun h1 => ?_) (fun h1 => ?_)
    · walk_at "run"
      refine ev_br (fun h2 => ?_) (fun h2 => ?_)
      · walk_at "run"
        simp only [Bool.not_eq_true'] at h2
        exact ⟨by rw [rng _ _ h1 h2]; rfl, rfl⟩
      · simp only [Bool.not_eq_false'] at h2
        walk_at "run"
        refine w_inS (ws := barred) rfl (fun _ z => by cases z) ?_
        rw [rng _ _ h1 h2]
        cases h3 : inV (.str w) (barred.map V.str) with
        | true =>
          walk_at "run"
          exact ⟨rfl, rfl⟩
        | false =>
          walk_at "run"
          refine w_of (a := signsL w) rfl ?_
          have len : w.cps.toList.length ≤ 1000 := by simpa [Str.length] using wd.1
          have em : signsL w = w.cps.toList.map fun c => .str ⟨#[c]⟩ := rfl
          have fact : ∀ s1 s2, compR (run T G n) G [2] (.nm 2) (.cmp .notin (.var 2) (.con (.str "abcdefghijklmnopqrstuvwxyz"))) (.var 2) [.val (.str w), s1, s2] (signsL w) h = .ok (.new ((w.cps.toList.filter fun c => !decide (c ∈ letters.cps.toList)).map fun c => .str ⟨#[c]⟩)) h := fun s1 s2 => by
            unfold compR
            rw [comp_filter (fun d => match d with | .str s => s.cps.toList.all fun c => !decide (c ∈ letters.cps.toList) | _ => false) id (by rw [em, List.length_nil, Nat.zero_add, List.length_map, sizeLine_eq]; omega) fun x hx => ?_]
            · rw [List.nil_append, List.map_id, em, List.filter_map]
              congr 3
              refine List.filter_congr fun c hc => ?_
              simp
            · rw [em] at hx
              obtain ⟨c, _, rfl⟩ := List.mem_map.mp hx
              refine ev_eq ?_
              show evX _ (compG _ _ _ _ _ h) _
              simp only [setV, wipeE, List.set_cons_succ, List.set_cons_zero]
              walk_at "run"
              refine w_notin1 ?_
              have ea : (match (D.str ⟨#[c]⟩) with | .str s => s.cps.toList.all fun c => !decide (c ∈ letters.cps.toList) | _ => false) = !decide (c ∈ letters.cps.toList) := by simp
              refine ev_br (fun h4 => ?_) (fun h4 => ?_)
              · walk_at "run"
                exact ⟨(if_pos (ea.trans h4)).symm, rfl⟩
              · walk_at "run"
                exact ⟨(if_neg fun z => absurd (z.symm.trans (ea.trans h4)) (by decide)).symm, rfl⟩
          rw [fact]
          walk_at "run"
          have okf : ∀ x ∈ (w.cps.toList.filter fun c => !decide (c ∈ letters.cps.toList)).map (fun c => D.str ⟨#[c]⟩), Ok 0 1 x := fun x hx => by
            obtain ⟨c, hc, rfl⟩ := List.mem_map.mp hx
            exact Ok.str (wd.one (List.mem_filter.mp hc).1).ok
          with_reducible refine w_eqNil (k := 0) (w := 1) okf (by omega) ?_
          walk_at "run"
          refine ⟨?_, rfl⟩
          congr 2
          rw [Bool.not_false, Bool.and_self, Bool.and_self, Bool.true_and, Bool.eq_iff_iff, List.isEmpty_iff, List.map_eq_nil_iff, List.filter_eq_nil_iff]
          unfold signs
          rw [List.all_eq_true]
          exact ⟨fun q c hc => by simpa using q c hc, fun q c hc => by simpa using q c hc⟩
    · walk_at "run"
      exact ⟨by rw [rng _ _ h1 rfl]; rfl, rfl⟩
  | _ =>
    show evX _ (notR (.dat (.bl false)) _) _
    walk_at "run"
    exact ⟨rfl, rfl⟩
theorem lsize_ok (hT : T "_law_size" = some fn__law_size) : ∀ (k n : Nat) (d : D), Sn h k d → run T G (n + k + 1) "_law_size" [d, .int (k : Nat)] h = .ok (.dat (.int (sizeL k d : Nat))) h := by
  intro k
  induction k with
  | zero =>
    intro n d s
    have s0 := s.seen
    refine ev_eq (v_run hT rfl ?_)
    unfold fn__law_size
    simp only [Fn.env, List.map_cons, List.map_nil, Nat.reduceSub, List.replicate_succ, List.replicate_zero, List.cons_append, List.nil_append]
    walk_at "run"
    cases d with
    | ref r =>
      refine w_isI s0 ?_
      show evX _ (brR (.dat (.bl false)) _ _) _
      walk_at "run"
      refine w_isT s0 ?_
      show evX _ (notR (.dat (.bl false)) _) _
      walk_at "run"
      exact ⟨rfl, rfl⟩
    | arg l => cases s0
    | sp a b c => cases s0
    | _ =>
      walk_at "run"
      exact ⟨rfl, rfl⟩
  | succ k ih =>
    intro n d s
    have s0 := s.seen
    refine ev_eq (v_run hT rfl ?_)
    unfold fn__law_size
    simp only [Fn.env, List.map_cons, List.map_nil, Nat.reduceSub, List.replicate_succ, List.replicate_zero, List.cons_append, List.nil_append]
    walk_at "run"
    cases d with
    | int i =>
      rw [show sizeL (k + 1) (.int i) = if 0 ≤ i ∧ i ≤ 99 then 1 else 100 from rfl]
      walk_at "run"
      refine ev_br (fun h1 => ?_) (fun h1 => ?_)
      · simp only [decide_eq_true_eq] at h1
        walk_at "run"
        refine ev_br (fun h2 => ?_) (fun h2 => ?_)
        · simp only [decide_eq_true_eq] at h2
          walk_at "run"
          exact ⟨by rw [if_pos ⟨h1, h2⟩]; rfl, rfl⟩
        · simp only [decide_eq_false_iff_not] at h2
          walk_at "run"
          exact ⟨by rw [if_neg (fun z => h2 z.2)]; rfl, rfl⟩
      · simp only [decide_eq_false_iff_not] at h1
        walk_at "run"
        exact ⟨by rw [if_neg (fun z => h1 z.1)]; rfl, rfl⟩
    | tup l =>
      have s1 : ∀ x ∈ l, Sn h k x := s
      rw [show sizeL (k + 1) (.tup l) = if l.length ≤ 10 then 1 + (l.map (sizeL k)).sum else 100 from rfl]
      walk_at "run"
      refine ev_br (fun h1 => ?_) (fun h1 => ?_)
      · simp only [decide_eq_true_eq] at h1
        walk_at "run"
        exact ⟨by rw [if_neg (by omega)]; rfl, rfl⟩
      · simp only [decide_eq_false_iff_not] at h1
        rw [if_pos (by omega)]
        walk_at "run"
        have fact : ∀ s2, compR (run T G (n + (k + 1))) G [2] (.nm 2) (.con (.bl true)) (.call "_law_size" (.cons (.var 2) (.cons (.bin .sub (.var 1) (.con (.int 1))) .nil))) [.val (.tup l), .val (.int ((k + 1 : Nat) : Int)), s2] l h = .ok (.new ((l.map fun x => ((sizeL k x : Nat) : Int)).map .int)) h := fun s2 => by
          unfold compR
          rw [comp_map (fun x => .int (sizeL k x : Nat)) (by rw [sizeLine_eq]; simp only [List.length_nil]; omega) fun x hx => ?_]
          · rw [List.nil_append, List.map_map]; rfl
          · refine ev_eq ?_
            show evX _ (compG _ _ _ _ _ h) _
            simp only [setV, wipeE, List.set_cons_succ, List.set_cons_zero]
            walk_at "run"
            rw [show ((k + 1 : Nat) : Int) - 1 = (k : Nat) by omega]
            refine ev_of (ih n x (s1 x hx)) ?_
            walk_at "run"
            exact ⟨rfl, rfl⟩
        rw [fact]
        walk_at "run"
        refine w_sum ?_
        walk_at "run"
        refine ⟨?_, rfl⟩
        have es : ∀ l : List D, (l.map fun x => ((sizeL k x : Nat) : Int)).sum = ((l.map (sizeL k)).sum : Nat) := fun l => by
          induction l with
          | nil => rfl
          | cons x l ih => simp only [List.map_cons, List.sum_cons, ih]; omega
        rw [es]
        congr 2
    | ref r =>
      refine w_isI s0 ?_
      show evX _ (brR (.dat (.bl false)) _ _) _
      walk_at "run"
      refine w_isT s0 ?_
      show evX _ (notR (.dat (.bl false)) _) _
      walk_at "run"
      exact ⟨rfl, rfl⟩
    | arg l => cases s0
    | sp a b c => cases s0
    | _ =>
      walk_at "run"
      exact ⟨rfl, rfl⟩
end
end Mi
/-! Mi44: the laws' own look at patterns, walked: what stands within, parts. -/
namespace Mi
open PySem PySem.SeqAt PySem.Spec PyProof.Rows L2
variable {X : Exc → Hh → Prop}
theorem w_notinW2 {x : Str} {ws : List Str} {y : R} {h : Hh} {Q : R → Hh → Prop} (e : sv h y = some (ws.map .str)) (hy : ∀ b, y ≠ .dat (.str b)) (p : Q (.dat (.bl (!decide (x ∈ ws)))) h) : evX X (ofR h (cmpF h .notin (.dat (.str x)) y) fun b => R.dat (.bl b)) Q := by
  refine w_notinS e hy ?_
  rw [inV_mem]; exact p
theorem w_addNl {a b : List D} {h : Hh} {Q : R → Hh → Prop} (z : a.length + b.length ≤ 2000) (p : Q (.new (a ++ b)) h) : evX X (Res.of h (binF h .add (.new a) (.dat (.lst b)))) Q := by
  refine w_of ?_ p
  show (if a.length + b.length ≤ sizeLine then some (R.new (a ++ b)) else none) = _
  rw [if_pos (by rw [sizeLine_eq]; omega)]
theorem w_mul01 {a : D} {i : Int} {h : Hh} {Q : R → Hh → Prop} (z : i = 0 ∨ i = 1) (p : Q (.new (if i = 1 then [a] else [])) h) : evX X (Res.of h (binF h .mul (.new [a]) (.dat (.int i)))) Q := by
  rcases z with rfl | rfl
  · exact w_of rfl p
  · exact w_of rfl p
section
variable {w : Str} {r : List D}
theorem lone_ne (c : loneW w = true) : ¬ w = "any" ∧ pairW w = false ∧ ¬ w = "use" ∧ ¬ (w = "name" ∨ w = "hole") ∧ ¬ w = "row" ∧ ¬ w = "lot" := by
  have c : w ∈ (["not", "first", "turned", "all"] : List Str) := by simpa [loneW] using c
  simp only [List.mem_cons, List.not_mem_nil, or_false] at c
  rcases c with rfl | rfl | rfl | rfl <;> decide +kernel
theorem fW_lone (c : loneW w = true) : formW w r = decide (r.length = 1) := by
  obtain ⟨n1, n2, n3, n4, n5, n6⟩ := lone_ne c
  rw [fW_one n1 n2 n3]
  unfold oneW
  rw [if_neg n4, if_neg n5, if_neg n6, c, Bool.true_or, Bool.and_true]
theorem wW_lone (c : loneW w = true) : withinW w r = r := by unfold withinW; rw [c, Bool.or_true]; rfl
theorem wW_pair (c : pairW w = true) : withinW w r = r := by unfold withinW; rw [c]; rfl
theorem wW_use (c1 : pairW w = false) (c2 : loneW w = false) (c3 : w = "use") : withinW w r = rowD (r.getD 1 .non) := by
  have n : ¬ (w = "row" ∨ w = "lot") := by subst c3; decide +kernel
  unfold withinW; rw [c1, c2, if_neg (by decide), if_neg n, if_pos c3]
theorem wW_rows (c1 : pairW w = false) (c2 : loneW w = false) (c3 : w = "row" ∨ w = "lot") : withinW w r = (rowD (r.getD 0 .non)).map sndD := by
  unfold withinW; rw [c1, c2, if_neg (by decide), if_pos c3]
theorem fW_no (c0 : ¬ w = "any") (c1 : pairW w = false) (c2 : loneW w = false) (c3 : ¬ w = "use") (c4 : ¬ (w = "name" ∨ w = "hole")) (c5 : ¬ w = "row") (c6 : ¬ w = "lot") (c7 : ¬ w = "is") : formW w r = false := by
  rw [fW_one c0 c1 c3]
  unfold oneW
  rw [if_neg c4, if_neg c5, if_neg c6, c2, decide_eq_false c7]
  simp
theorem fW_rows {row : Bool} {m : Nat} (hw : (w = "row" ∧ row = true ∧ m = 6) ∨ (w = "lot" ∧ row = false ∧ m = 4)) : formW w r = (decide (r.length = 1) && itemsD row m (r.getD 0 .non)) := by
  have n1 : ¬ w = "any" := by rcases hw with ⟨rfl, _⟩ | ⟨rfl, _⟩ <;> decide +kernel
  have n2 : pairW w = false := by rcases hw with ⟨rfl, _⟩ | ⟨rfl, _⟩ <;> decide +kernel
  have n3 : ¬ w = "use" := by rcases hw with ⟨rfl, _⟩ | ⟨rfl, _⟩ <;> decide +kernel
  have n4 : ¬ (w = "name" ∨ w = "hole") := by rcases hw with ⟨rfl, _⟩ | ⟨rfl, _⟩ <;> decide +kernel
  rw [fW_one n1 n2 n3]
  congr 1
  unfold oneW
  rw [if_neg n4]
  rcases hw with ⟨rfl, rfl, rfl⟩ | ⟨rfl, rfl, rfl⟩
  · rw [if_pos rfl]
  · rw [if_neg (by decide +kernel), if_pos rfl]
end
/-- what a row of items gives: the patterns in it, or none -/
def inR (w : Str) (r : List D) : R := if formW w r = true then .new (withinW w r) else .dat .non
section
variable {T : Tab} {G : Str → Option D} {n : Nat} {h : Hh} {w : Str} {r : List D}
theorem linner_ok (tN : T "_law_is_name" = some fn__law_is_name) (tI : T "_law_inner" = some fn__law_inner) (o : ∀ x ∈ r, Lo h x) (c0 : ¬ w = "any") (c7 : ¬ w = "is") (c4 : ¬ (w = "name" ∨ w = "hole")) :
    run T G (n + 2) "_law_inner" [.str w, .tup r] h = .ok (inR w r) h := by
  refine ev_eq (v_run tI rfl ?_)
  unfold fn__law_inner
  simp only [Fn.env, List.map_cons, List.map_nil, Nat.reduceSub, List.replicate_succ, List.replicate_zero, List.cons_append, List.nil_append]
  walk_at "run"
  refine w_inW2 (ws := ["both", "either"]) rfl (fun _ z => by cases z) ?_
  rw [show decide (w ∈ (["both", "either"] : List Str)) = pairW w from rfl]
  cases c1 : pairW w with
  | true =>
    have e : inR w r = if r.length = 2 then .new r else .dat .non := by
      unfold inR; rw [fW_pair c0 c1, wW_pair c1]; simp
    rw [e]
    walk_at "run"
    refine ev_br (fun h1 => ?_) (fun h1 => ?_)
    · simp only [decide_eq_true_eq] at h1
      walk_at "run"
      refine w_toL2 ?_
      walk_at "run"
      exact ⟨by rw [if_pos (by omega)], rfl⟩
    · simp only [decide_eq_false_iff_not] at h1
      walk_at "run"
      exact ⟨by rw [if_neg (by omega)], rfl⟩
  | false =>
  walk_at "run"
  refine w_inW2 (ws := ["not", "first", "turned", "all"]) rfl (fun _ z => by cases z) ?_
  rw [show decide (w ∈ (["not", "first", "turned", "all"] : List Str)) = loneW w from rfl]
  cases c2 : loneW w with
  | true =>
    have e : inR w r = if r.length = 1 then .new r else .dat .non := by
      unfold inR; rw [fW_lone c2, wW_lone c2]; simp
    rw [e]
    walk_at "run"
    refine ev_br (fun h1 => ?_) (fun h1 => ?_)
    · simp only [decide_eq_true_eq] at h1
      walk_at "run"
      refine w_toL2 ?_
      walk_at "run"
      exact ⟨by rw [if_pos (by omega)], rfl⟩
    · simp only [decide_eq_false_iff_not] at h1
      walk_at "run"
      exact ⟨by rw [if_neg (by omega)], rfl⟩
  | false =>
  walk_at "run"
  refine w_eqS ?_
  by_cases c3 : w = "use"
  · have e : inR w r = if useD r = true then .new (rowD (r.getD 1 .non)) else .dat .non := by
      unfold inR; rw [fW_use c0 c1 c3, wW_use c1 c2 c3]
    rw [e, decide_eq_true c3]
    walk_at "run"
    refine ev_br (fun h1 => ?_) (fun h1 => ?_)
    · simp only [decide_eq_true_eq] at h1
      match r, h1, o with
      | [a, b], _, o =>
        have b0 := (o b (by simp)).seen
        walk_at "run"
        refine ev_of (lname_ok (n := n) tN (o a (by simp))) ?_
        cases ha : nameD a with
        | false =>
          rw [useD_n ha]
          walk_at "run"
          exact ⟨rfl, rfl⟩
        | true =>
          walk_at "run"
          refine w_isT b0 ?_
          cases b with
          | tup z =>
            show evX _ (brR (.dat (.bl true)) _ _) _
            rw [useD_t, ha, Bool.true_and]
            walk_at "run"
            refine ev_br (fun h2 => ?_) (fun h2 => ?_)
            · simp only [decide_eq_true_eq] at h2
              walk_at "run"
              refine w_toL2 ?_
              walk_at "run"
              exact ⟨by rw [decide_eq_true (by omega : z.length ≤ 2)]; rfl, rfl⟩
            · simp only [decide_eq_false_iff_not] at h2
              walk_at "run"
              exact ⟨by rw [decide_eq_false (by omega : ¬ z.length ≤ 2)]; rfl, rfl⟩
          | _ =>
            show evX _ (brR (.dat (.bl false)) _ _) _
            walk_at "run"
            exact ⟨rfl, rfl⟩
      | [], h1, _ => simp at h1
      | [_], h1, _ => simp at h1
      | _ :: _ :: _ :: _, h1, _ => simp at h1; omega
    · simp only [decide_eq_false_iff_not] at h1
      walk_at "run"
      exact ⟨by rw [useD_len (by omega)]; rfl, rfl⟩
  rw [decide_eq_false c3]
  walk_at "run"
  refine w_notinW2 (ws := ["row", "lot"]) rfl (fun _ z => by cases z) ?_
  by_cases c5 : w = "row" ∨ w = "lot"
  · rw [decide_eq_true (show w ∈ (["row", "lot"] : List Str) by simpa using c5), show (!true) = false from rfl]
    obtain ⟨row, m, hw⟩ : ∃ row m, (w = "row" ∧ row = true ∧ m = 6) ∨ (w = "lot" ∧ row = false ∧ m = 4) := by
      rcases c5 with rfl | rfl
      · exact ⟨true, 6, .inl ⟨rfl, rfl, rfl⟩⟩
      · exact ⟨false, 4, .inr ⟨rfl, rfl, rfl⟩⟩
    have r1 : decide (w = "row") = row := by rcases hw with ⟨rfl, rfl, _⟩ | ⟨rfl, rfl, _⟩ <;> decide +kernel
    have rm : (row = true ∧ m = 6) ∨ (row = false ∧ m = 4) := by rcases hw with ⟨_, h⟩ | ⟨_, h⟩ <;> simp [h]
    have e : inR w r = if (decide (r.length = 1) && itemsD row m (r.getD 0 .non)) = true then .new ((rowD (r.getD 0 .non)).map sndD) else .dat .non := by
      unfold inR; rw [fW_rows hw, wW_rows c1 c2 c5]
    rw [e]
    walk_at "run"
    refine ev_br (fun h1 => ?_) (fun h1 => ?_)
    · simp only [Bool.not_eq_true', decide_eq_false_iff_not] at h1
      walk_at "run"
      exact ⟨by rw [decide_eq_false (by omega : ¬ r.length = 1)]; rfl, rfl⟩
    · simp only [Bool.not_eq_false', decide_eq_true_eq] at h1
      match r, h1, o with
      | [y], _, o =>
        have oy := o y (by simp)
        have y0 := oy.seen
        rw [show (decide (([y] : List D).length = 1) && itemsD row m (([y] : List D).getD 0 .non)) = itemsD row m y from rfl, show ([y] : List D).getD 0 .non = y from rfl]
        walk_at "run"
        refine w_isT y0 ?_
        cases y with
        | tup l =>
          show evX _ (notR (.dat (.bl true)) _) _
          rw [show itemsD row m (.tup l) = (decide (l.length ≤ m) && itemsB row l) from rfl, show rowD (.tup l) = l from rfl]
          have stop : ∀ (i : Nat) (x : D), l[i]? = some x → itemB row (decide (l.length ≤ i + 1)) x = false → itemsB row l = false := fun i x hx hf => by
            unfold itemsB
            rw [List.all_eq_false]
            have hi := (List.getElem?_eq_some_iff.mp hx).1
            refine ⟨i, List.mem_range.mpr hi, ?_⟩
            rw [List.getD_eq_getElem?_getD, hx]
            simpa using hf
          walk_at "run"
          refine w_ofR (a := l) rfl ?_
          refine ev_for (fun i e g => g = h ∧ (∃ s2 s3 s4 s5, e = [.val (.str w), .val (.tup [.tup l]), s2, s3, s4, s5]) ∧ ∀ j, j < i → ∀ x, l[j]? = some x → itemB row (decide (l.length ≤ j + 1)) x = true) ⟨rfl, ⟨_, _, _, _, rfl⟩, fun j hj => by omega⟩ ?_ ?_
          · rintro i d e g hd ⟨rfl, ⟨s2, s3, s4, s5, rfl⟩, hall⟩
            obtain ⟨x, hx, rfl⟩ := enum_get hd
            have hi := (List.getElem?_eq_some_iff.mp hx).1
            have ox := oy.inT (List.mem_of_getElem? hx)
            have x0 := ox.seen
            refine ⟨_, rfl, ?_⟩
            simp only [setV, List.set_cons_succ, List.set_cons_zero]
            have go : itemB row (decide (l.length ≤ i + 1)) x = true → ∀ j, j < i + 1 → ∀ x, l[j]? = some x → itemB row (decide (l.length ≤ j + 1)) x = true := fun q j hj y hy => by
              rcases Nat.lt_succ_iff_lt_or_eq.mp hj with hj | rfl
              · exact hall j hj y hy
              · rw [hx] at hy; cases hy; exact q
            have no := stop i x hx
            clear stop hd
            walk_at "run"
            refine w_isT x0 ?_
            cases x with
            | tup y =>
              have sy : ∀ z ∈ y, Lo g z := fun z hz => ox.inT hz
              show evX _ (notR (.dat (.bl true)) _) _
              walk_at "run"
              refine ev_br (fun h2 => ?_) (fun h2 => ?_)
              · rw [no (by
                  match y, h2 with
                  | [], _ => rfl
                  | [_], _ => simp [itemB]
                  | [_, _], h2 => simp at h2
                  | _ :: _ :: _ :: _, _ => simp only [itemB]), Bool.and_false]
                walk_at "run"
                exact ⟨rfl, rfl⟩
              · match y, h2, sy, no, go with
                | [a, b], _, sy, no, go =>
                  have a0 := (sy a (by simp)).seen
                  walk_at "run"
                  refine w_isS a0 ?_
                  cases a with
                  | str v =>
                    show evX _ (notR (.dat (.bl true)) _) _
                    have eB : ∀ z, itemB row z (.tup [.str v, b]) = (decide (v = "one") || (row && decide (v = "stretch")) || (!row && (z && decide (v = "rest")))) := fun _ => rfl
                    rw [eB] at no go
                    walk_at "run"
                    refine w_eqS ?_
                    rw [r1]
                    cases row with
                    | true =>
                      walk_at "run"
                      refine w_addNl (by simp) ?_
                      refine w_notinW2 (ws := ["one", "stretch"]) rfl (fun _ z => by cases z) ?_
                      by_cases c9 : v ∈ (["one", "stretch"] : List Str)
                      · rw [decide_eq_true c9, show (!true) = false from rfl]
                        walk_at "run"
                        refine ⟨rfl, ⟨_, _, _, _, rfl⟩, go ?_⟩
                        simp only [List.mem_cons, List.not_mem_nil, or_false] at c9
                        simp [c9]
                      · rw [decide_eq_false c9, show (!false) = true from rfl, no (by
                          simp only [List.mem_cons, List.not_mem_nil, or_false, not_or] at c9
                          simp [c9]), Bool.and_false]
                        walk_at "run"
                        exact ⟨rfl, rfl⟩
                    | false =>
                      walk_at "run"
                      refine w_mul01 (by split <;> simp) ?_
                      have el : (decide (((0 + i : Nat) : Int) = (l.length : Int) - 1)) = decide (l.length ≤ i + 1) := by
                        rw [Bool.eq_iff_iff, decide_eq_true_eq, decide_eq_true_eq]; omega
                      rw [el]
                      cases hz : decide (l.length ≤ i + 1) with
                      | true =>
                        rw [hz] at no go
                        rw [if_pos (show (if true = true then (1 : Int) else 0) = 1 from rfl)]
                        walk_at "run"
                        refine w_addNl (by simp) ?_
                        refine w_notinW2 (ws := ["one", "rest"]) rfl (fun _ z => by cases z) ?_
                        by_cases c9 : v ∈ (["one", "rest"] : List Str)
                        · rw [decide_eq_true c9, show (!true) = false from rfl]
                          walk_at "run"
                          refine ⟨rfl, ⟨_, _, _, _, rfl⟩, go ?_⟩
                          simp only [List.mem_cons, List.not_mem_nil, or_false] at c9
                          simp [c9]
                        · rw [decide_eq_false c9, show (!false) = true from rfl, no (by
                            simp only [List.mem_cons, List.not_mem_nil, or_false, not_or] at c9
                            simp [c9]), Bool.and_false]
                          walk_at "run"
                          exact ⟨rfl, rfl⟩
                      | false =>
                        rw [hz] at no go
                        rw [if_neg (show ¬ (if false = true then (1 : Int) else 0) = 1 by decide)]
                        walk_at "run"
                        refine w_addNl (by simp) ?_
                        refine w_notinW2 (ws := ["one"]) rfl (fun _ z => by cases z) ?_
                        by_cases c9 : v ∈ (["one"] : List Str)
                        · rw [decide_eq_true c9, show (!true) = false from rfl]
                          walk_at "run"
                          refine ⟨rfl, ⟨_, _, _, _, rfl⟩, go ?_⟩
                          simp only [List.mem_cons, List.not_mem_nil, or_false] at c9
                          simp [c9]
                        · rw [decide_eq_false c9, show (!false) = true from rfl, no (by
                            simp only [List.mem_cons, List.not_mem_nil, or_false] at c9
                            simp [c9]), Bool.and_false]
                          walk_at "run"
                          exact ⟨rfl, rfl⟩
                  | _ =>
                    show evX _ (notR (.dat (.bl false)) _) _
                    rw [no (by simp only [itemB]), Bool.and_false]
                    walk_at "run"
                    exact ⟨rfl, rfl⟩
                | [], h2, _, _, _ => simp at h2
                | [_], h2, _, _, _ => simp at h2
                | _ :: _ :: _ :: _, h2, _, _, _ => simp at h2; omega
            | _ =>
              show evX _ (notR (.dat (.bl false)) _) _
              rw [no (by simp only [itemB]), Bool.and_false]
              walk_at "run"
              exact ⟨rfl, rfl⟩
          · rintro e g ⟨rfl, ⟨s2, s3, s4, s5, rfl⟩, hall⟩
            have hi : itemsB row l = true := by
              unfold itemsB
              rw [List.all_eq_true]
              intro i hi
              have hi := List.mem_range.mp hi
              rw [List.getD_eq_getElem?_getD, List.getElem?_eq_getElem hi]
              exact hall i (by rw [enum_length]; exact hi) _ (List.getElem?_eq_getElem hi)
            rw [hi, Bool.and_true]
            clear hall stop
            walk_at "run"
            refine w_eqS ?_
            rw [r1]
            walk_at "run"
            refine w_ixN (d := .int ((m : Nat) + 1)) (by rcases rm with ⟨rfl, rfl⟩ | ⟨rfl, rfl⟩ <;> rfl) ?_
            walk_at "run"
            refine ev_br (fun h3 => ?_) (fun h3 => ?_)
            · simp only [decide_eq_true_eq] at h3
              rw [decide_eq_true (by omega : l.length ≤ m)]
              have l6 : l.length ≤ 6 := by omega
              walk_at "run"
              have fact : ∀ s2 s3 s4 s5, compR (run T G (n + 1)) G [4] (.nm 4) (.con (.bl true)) (.ix (.var 4) (.con (.int 1))) [.val (.str w), .val (.tup [.tup l]), s2, s3, s4, s5] l g = .ok (.new (l.map sndD)) g := fun s2 s3 s4 s5 => by
                unfold compR
                rw [comp_map sndD (by rw [sizeLine_eq]; simp only [List.length_nil]; omega) fun x hx => ?_]
                · rw [List.nil_append]
                · obtain ⟨v, y, rfl⟩ := items_two hi x hx
                  refine ev_eq ?_
                  show evX _ (compG _ _ _ _ _ g) _
                  simp only [setV, wipeE, List.set_cons_succ, List.set_cons_zero]
                  walk_at "run"
                  exact ⟨rfl, rfl⟩
              rw [fact]
              walk_at "run"
              exact ⟨rfl, rfl⟩
            · simp only [decide_eq_false_iff_not] at h3
              rw [decide_eq_false (by omega : ¬ l.length ≤ m)]
              walk_at "run"
              exact ⟨rfl, rfl⟩
        | _ =>
          show evX _ (notR (.dat (.bl false)) _) _
          walk_at "run"
          exact ⟨rfl, rfl⟩
      | [], h1, _ => simp at h1
      | _ :: _ :: _, h1, _ => simp at h1; omega
  · have e : inR w r = .dat .non := by
      unfold inR
      rw [fW_no c0 c1 c2 c3 c4 (fun z => c5 (.inl z)) (fun z => c5 (.inr z)) c7]; rfl
    rw [decide_eq_false (show ¬ w ∈ (["row", "lot"] : List Str) by simpa using c5), show (!false) = true from rfl, e]
    walk_at "run"
    exact ⟨rfl, rfl⟩
end
end Mi
/-! Mi45: the laws' own count of parts, walked. -/
namespace Mi
open PySem PySem.SeqAt PySem.Spec PyProof.Rows L2
variable {X : Exc → Hh → Prop}
section
variable {w : Str} {r : List D}
theorem wW_flat (c : w = "any" ∨ w = "is" ∨ w = "name" ∨ w = "hole") : withinW w r = [] := by
  have n1 : pairW w = false := by rcases c with rfl | rfl | rfl | rfl <;> decide +kernel
  have n2 : loneW w = false := by rcases c with rfl | rfl | rfl | rfl <;> decide +kernel
  have n3 : ¬ (w = "row" ∨ w = "lot") := by rcases c with rfl | rfl | rfl | rfl <;> decide +kernel
  have n4 : ¬ w = "use" := by rcases c with rfl | rfl | rfl | rfl <;> decide +kernel
  unfold withinW; rw [n1, n2, if_neg (by decide), if_neg n3, if_neg n4]
theorem wW_len (f : formW w r = true) : (withinW w r).length ≤ 6 := by
  by_cases c0 : w = "any"
  · rw [wW_flat (.inl c0)]; simp
  cases c1 : pairW w with
  | true =>
    rw [fW_pair c0 c1, decide_eq_true_eq] at f
    rw [wW_pair c1]; omega
  | false =>
  cases c2 : loneW w with
  | true =>
    rw [fW_lone c2, decide_eq_true_eq] at f
    rw [wW_lone c2]; omega
  | false =>
  by_cases c5 : w = "row" ∨ w = "lot"
  · obtain ⟨l, row, rfl, _, l6⟩ := form_items f c5
    rw [wW_rows c1 c2 c5, List.length_map]
    exact l6
  by_cases c3 : w = "use"
  · obtain ⟨nm, a, rfl, l2⟩ := form_use f c3
    rw [wW_use c1 c2 c3]
    show a.length ≤ 6
    omega
  · unfold withinW; rw [c1, c2, if_neg (by decide), if_neg c5, if_neg c3]; simp
end
structure LP (T : Tab) (G : Str → Option D) : Prop where
  lname : T "_law_is_name" = some fn__law_is_name
  lsize : T "_law_size" = some fn__law_size
  linner : T "_law_inner" = some fn__law_inner
  lparts : T "_law_parts" = some fn__law_parts
section
variable {T : Tab} {G : Str → Option D} {n : Nat} {h : Hh} {d : D}
theorem lparts_ok (W : LP T G) : ∀ (k n : Nat) (d : D), Lo h d → run T G (n + k + 8) "_law_parts" [d, .int (k : Nat)] h = .ok (.dat (.int (partsL k d : Nat))) h := by
  intro k
  induction k with
  | zero =>
    intro n d o
    refine ev_eq (v_run W.lparts rfl ?_)
    unfold fn__law_parts
    simp only [Fn.env, List.map_cons, List.map_nil, Nat.reduceSub, List.replicate_succ, List.replicate_zero, List.cons_append, List.nil_append]
    walk_at "run"
    exact ⟨rfl, rfl⟩
  | succ k ih =>
    intro n d o
    have s0 := o.seen
    rw [show partsL (k + 1) d = if formD d then 1 + ((withinD d).map (partsL k)).sum else 100 from rfl]
    refine ev_eq (v_run W.lparts rfl ?_)
    unfold fn__law_parts
    simp only [Fn.env, List.map_cons, List.map_nil, Nat.reduceSub, List.replicate_succ, List.replicate_zero, List.cons_append, List.nil_append]
    walk_at "run"
    cases d with
    | tup l =>
      walk_at "run"
      refine w_eqT0 ?_
      cases l with
      | nil =>
        rw [show ([] : List D).isEmpty = true from rfl]
        walk_at "run"
        exact ⟨rfl, rfl⟩
      | cons x r =>
        rw [show (x :: r).isEmpty = false from rfl]
        have x0 := (o.inT (x := x) (by simp)).seen
        have or : ∀ z ∈ r, Lo h z := fun z hz => o.inT (List.mem_cons_of_mem _ hz)
        walk_at "run"
        refine w_ixT atZ ?_
        walk_at "run"
        refine w_isS x0 ?_
        cases x with
        | str w =>
          show evX _ (notR (.dat (.bl true)) _) _
          rw [show formD (.tup (.str w :: r)) = formW w r from rfl, show withinD (.tup (.str w :: r)) = withinW w r from rfl]
          walk_at "run"
          refine w_ixT atZ ?_
          walk_at "run"
          rw [cut_1]
          walk_at "run"
          refine w_eqS ?_
          by_cases c0 : w = "any"
          · rw [decide_eq_true c0, fW_any c0, wW_flat (.inl c0)]
            walk_at "run"
            refine w_eqT0 ?_
            cases r.isEmpty with
            | true => walk_at "run"; exact ⟨rfl, rfl⟩
            | false => walk_at "run"; exact ⟨rfl, rfl⟩
          rw [decide_eq_false c0]
          walk_at "run"
          refine w_inW2 (ws := ["is", "name", "hole"]) rfl (fun _ z => by cases z) ?_
          by_cases cf : w = "is" ∨ w = "name" ∨ w = "hole"
          · have n1 : pairW w = false := by rcases cf with rfl | rfl | rfl <;> decide +kernel
            have n2 : loneW w = false := by rcases cf with rfl | rfl | rfl <;> decide +kernel
            have n3 : ¬ w = "use" := by rcases cf with rfl | rfl | rfl <;> decide +kernel
            have n5 : ¬ w = "row" := by rcases cf with rfl | rfl | rfl <;> decide +kernel
            have n6 : ¬ w = "lot" := by rcases cf with rfl | rfl | rfl <;> decide +kernel
            rw [decide_eq_true (show w ∈ (["is", "name", "hole"] : List Str) by simpa using cf), fW_one c0 n1 n3, wW_flat (.inr cf)]
            walk_at "run"
            refine ev_br (fun h1 => ?_) (fun h1 => ?_)
            · simp only [Bool.not_eq_true', decide_eq_false_iff_not] at h1
              walk_at "run"
              exact ⟨by rw [decide_eq_false (by omega : ¬ r.length = 1)]; rfl, rfl⟩
            · simp only [Bool.not_eq_false', decide_eq_true_eq] at h1
              match r, h1, or with
              | [y], _, or =>
                have oy := or y (by simp)
                rw [show (decide (([y] : List D).length = 1) && oneW w (([y] : List D).getD 0 .non)) = oneW w y from rfl]
                walk_at "run"
                refine w_eqS ?_
                by_cases c7 : w = "is"
                · have e1 : oneW w y = worthD y := by
                    have n4 : ¬ (w = "name" ∨ w = "hole") := by rw [c7]; decide +kernel
                    unfold oneW; rw [if_neg n4, if_neg n5, if_neg n6, n2, decide_eq_true c7]; simp
                  rw [decide_eq_true c7, e1]
                  walk_at "run"
                  refine ev_of (lsize_ok W.lsize 6 (n + k + 1) y (oy.sn 6)) ?_
                  walk_at "run"
                  rw [sizeL_iff]
                  cases worthD y with
                  | true => walk_at "run"; exact ⟨rfl, rfl⟩
                  | false => walk_at "run"; exact ⟨rfl, rfl⟩
                · have n4 : w = "name" ∨ w = "hole" := cf.resolve_left c7
                  have e1 : oneW w y = nameD y := by unfold oneW; rw [if_pos n4]
                  rw [decide_eq_false c7, e1]
                  walk_at "run"
                  refine ev_of (lname_ok (n := n + k + 7) W.lname oy) ?_
                  cases nameD y with
                  | true => walk_at "run"; exact ⟨rfl, rfl⟩
                  | false => walk_at "run"; exact ⟨rfl, rfl⟩
              | [], h1, _ => simp at h1
              | _ :: _ :: _, h1, _ => simp at h1; omega
          · rw [decide_eq_false (show ¬ w ∈ (["is", "name", "hole"] : List Str) by simpa using cf)]
            walk_at "run"
            refine ev_of (linner_ok (n := n + k + 6) W.lname W.linner or c0 (fun z => cf (.inl z)) (fun z => cf (.inr z))) ?_
            unfold inR
            cases hf : formW w r with
            | false =>
              rw [if_neg (by decide)]
              walk_at "run"
              refine w_ofR (a := true) rfl ?_
              walk_at "run"
              exact ⟨rfl, rfl⟩
            | true =>
              rw [if_pos rfl]
              have ow : ∀ x ∈ withinW w r, Lo h x := o.within (show formD (.tup (.str w :: r)) = true from hf)
              have l6 := wW_len hf
              generalize withinW w r = l at ow l6
              walk_at "run"
              refine w_ofR (a := false) rfl ?_
              walk_at "run"
              have fact : ∀ s2 s3 s4 s5, compR (run T G (n + (k + 1) + 7)) G [5] (.nm 5) (.con (.bl true)) (.call "_law_parts" (.cons (.var 5) (.cons (.bin .sub (.var 1) (.con (.int 1))) .nil))) [.val (.tup (.str w :: r)), .val (.int ((k + 1 : Nat) : Int)), s2, s3, s4, s5] l h = .ok (.new ((l.map fun x => ((partsL k x : Nat) : Int)).map .int)) h := fun s2 s3 s4 s5 => by
                unfold compR
                rw [comp_map (fun x => .int (partsL k x : Nat)) (by rw [sizeLine_eq]; simp only [List.length_nil]; omega) fun x hx => ?_]
                · rw [List.nil_append, List.map_map]; rfl
                · refine ev_eq ?_
                  show evX _ (compG _ _ _ _ _ h) _
                  simp only [setV, wipeE, List.set_cons_succ, List.set_cons_zero]
                  walk_at "run"
                  rw [show ((k + 1 : Nat) : Int) - 1 = (k : Nat) by omega]
                  refine ev_of (ih n x (ow x hx)) ?_
                  walk_at "run"
                  exact ⟨rfl, rfl⟩
              rw [fact]
              walk_at "run"
              refine w_sum ?_
              walk_at "run"
              refine ⟨?_, rfl⟩
              have es : ∀ l : List D, (l.map fun x => ((partsL k x : Nat) : Int)).sum = ((l.map (partsL k)).sum : Nat) := fun l => by
                induction l with
                | nil => rfl
                | cons x l ih => simp only [List.map_cons, List.sum_cons, ih]; omega
              rw [es]
              congr 2
        | _ =>
          show evX _ (notR (.dat (.bl false)) _) _
          walk_at "run"
          exact ⟨rfl, rfl⟩
    | _ =>
      walk_at "run"
      all_goals first
        | exact ⟨rfl, rfl⟩
        | (refine w_isT s0 ?_
           walk_at "run"
           exact ⟨rfl, rfl⟩)
end
end Mi
/-! Mi46: things of bounded weight and depth, empty dicts within: looked at, told, taken apart and put together. -/
namespace Mi
open PySem PySem.Spec PyProof.Rows L2
mutual
def wt : D → Nat
  | .tup l => 1 + wtL l
  | .lst l => 1 + wtL l
  | .str s => 1 + s.length
  | _ => 8
def wtL : List D → Nat
  | [] => 0
  | x :: l => wt x + wtL l
end
mutual
def dp : D → Nat
  | .tup l => 1 + dpL l
  | .lst l => 1 + dpL l
  | .ref _ => 1
  | _ => 0
def dpL : List D → Nat
  | [] => 0
  | x :: l => max (dp x) (dpL l)
end
mutual
/-- leaves small, texts short, dicts empty -/
def Gd (h : Hh) : D → Prop
  | .tup l => GdL h l
  | .lst l => GdL h l
  | .str s => Wd 1000 s
  | .int i => -1000 ≤ i ∧ i ≤ 1000
  | .ref n => h[n]? = some (.dct [])
  | .non => True
  | .bl _ => True
  | .arg _ => False
  | .sp _ _ _ => False
def GdL (h : Hh) : List D → Prop
  | [] => True
  | x :: l => Gd h x ∧ GdL h l
end
theorem gdL_iff {h : Hh} : ∀ {l : List D}, GdL h l ↔ ∀ x ∈ l, Gd h x
  | [] => by simp [GdL]
  | x :: l => by simp only [GdL, gdL_iff (l := l), List.forall_mem_cons]
theorem gd_tup {h : Hh} {l : List D} : Gd h (.tup l) ↔ ∀ x ∈ l, Gd h x := by rw [← gdL_iff]; simp only [Gd]
theorem gd_lst {h : Hh} {l : List D} : Gd h (.lst l) ↔ ∀ x ∈ l, Gd h x := by rw [← gdL_iff]; simp only [Gd]
/-- empty dicts stay -/
def Ke (h h' : Hh) : Prop := ∀ n : Nat, h[n]? = some (.dct []) → h'[n]? = some (.dct [])
theorem Ke.refl {h : Hh} : Ke h h := fun _ e => e
theorem Ke.trans {h h1 h2 : Hh} (a : Ke h h1) (b : Ke h1 h2) : Ke h h2 := fun n e => b n (a n e)
theorem Ke.of {h h1 : Hh} {m ci li : Nat} {b : Int} (k : Kp m li h h1) (d : Dr h m ci li b) : Ke h h1 := fun n e => by
  obtain ⟨⟨cs, ls, a, q1, _, _, _, q5, _⟩, _⟩ := d
  refine k.at e (fun z => ?_) (fun z => ?_)
  · rw [z, q1] at e; simp [drO] at e
  · rw [z, q5] at e; simp at e
theorem Ke.more {h : Hh} {o : List O} : Ke h (h ++ o) := fun n e => by
  rw [List.getElem?_append_left (List.getElem?_eq_some_iff.mp e).1]; exact e
theorem Ke.set {h : Hh} {n : Nat} {l : List D} {o : O} (e : h[n]? = some (.lst l)) : Ke h (h.set n o) := fun k q => by
  rw [List.getElem?_set_ne (fun z => by rw [z, q] at e; cases e)]; exact q
mutual
theorem Gd.on {h h' : Hh} (k : Ke h h') : ∀ {d : D}, Gd h d → Gd h' d
  | .tup l, g => by simp only [Gd] at g ⊢; exact GdL.on k g
  | .lst l, g => by simp only [Gd] at g ⊢; exact GdL.on k g
  | .str s, g => by simp only [Gd] at g ⊢; exact g
  | .int i, g => by simp only [Gd] at g ⊢; exact g
  | .ref n, g => by simp only [Gd] at g ⊢; exact k n g
  | .non, _ => by simp only [Gd]
  | .bl _, _ => by simp only [Gd]
  | .arg _, g => by simp only [Gd] at g
  | .sp _ _ _, g => by simp only [Gd] at g
theorem GdL.on {h h' : Hh} (k : Ke h h') : ∀ {l : List D}, GdL h l → GdL h' l
  | [], _ => by simp only [GdL]
  | x :: l, g => by simp only [GdL] at g ⊢; exact ⟨Gd.on k g.1, GdL.on k g.2⟩
end
theorem Gd.loJ {h : Hh} : ∀ (j : Nat) {d : D}, Gd h d → LoJ h j d
  | 0, .str s, g => by simp only [Gd] at g; exact g
  | j + 1, .str s, g => by simp only [Gd] at g; exact g
  | 0, .tup l, _ => rfl
  | j + 1, .tup l, g => fun x hx => Gd.loJ j (gd_tup.mp g x hx)
  | 0, .non, _ => rfl
  | 0, .bl _, _ => rfl
  | 0, .int _, _ => rfl
  | 0, .lst _, _ => rfl
  | j + 1, .non, _ => rfl
  | j + 1, .bl _, _ => rfl
  | j + 1, .int _, _ => rfl
  | j + 1, .lst _, _ => rfl
  | 0, .ref n, g => by simp only [Gd] at g; show (h[n]?).isSome = true; rw [g]; rfl
  | j + 1, .ref n, g => by simp only [Gd] at g; show (h[n]?).isSome = true; rw [g]; rfl
  | 0, .arg _, g => by simp only [Gd] at g
  | j + 1, .arg _, g => by simp only [Gd] at g
  | 0, .sp _ _ _, g => by simp only [Gd] at g
  | j + 1, .sp _ _ _, g => by simp only [Gd] at g
theorem Gd.lo {h : Hh} {d : D} (g : Gd h d) : Lo h d := fun j => g.loJ j
theorem int_small {i : Int} (h : -1000 ≤ i ∧ i ≤ 1000) : (PyData.int i).weight ≤ 10 ∧ i.natAbs.log2 < 1920 ∧ (PyData.shown (.int i)).length ≤ 8 := by
  have a : i.natAbs < 10 ^ 4 := by omega
  refine ⟨?_, ?_, ?_⟩
  · simp only [PyData.weight]
    split
    · omega
    · by_cases z : i.natAbs = 0
      · rw [z]; decide
      · have := (Nat.log2_lt z (k := 10)).mpr (by omega)
        omega
  · by_cases z : i.natAbs = 0
    · rw [z]; decide
    · have := (Nat.log2_lt z (k := 10)).mpr (by omega)
      omega
  · have e := int_text_length_le10 (k := 4) (by decide) a
    show (Str.ofString (toString i)).length ≤ 8
    rw [PySem.ofString_length]
    exact Nat.le_trans e (by decide)
mutual
theorem gd_py {h : Hh} : ∀ {d : D}, Gd h d → ∃ p, d.pyE h = some p ∧ p.leavesShort 8 = true ∧ p.showable = true ∧ p.depth ≤ dp d ∧ p.weight + 1 ≤ 2 * wt d
  | .tup l, g => by
    simp only [Gd] at g
    obtain ⟨ps, e, h1, h2, h3, h4⟩ := gdL_py g
    refine ⟨.tuple ps, by simp [D.pyE, e], by simpa only [PyData.leavesShort] using h1, by simpa [PyData.showable] using h2, by simp only [PyData.depth, dp]; omega, by simp only [PyData.weight, wt]; omega⟩
  | .lst l, g => by
    simp only [Gd] at g
    obtain ⟨ps, e, h1, h2, h3, h4⟩ := gdL_py g
    refine ⟨.list ps, by simp [D.pyE, e], by simpa only [PyData.leavesShort] using h1, by simpa [PyData.showable] using h2, by simp only [PyData.depth, dp]; omega, by simp only [PyData.weight, wt]; omega⟩
  | .str s, g => by
    simp only [Gd] at g
    refine ⟨.str s, by simp [D.pyE], ?_, by simp [PyData.showable], by simp [PyData.depth], ?_⟩
    · simp only [PyData.leavesShort, List.all_eq_true, decide_eq_true_eq]
      intro c hc
      have := g.2 c hc
      omega
    · simp only [PyData.weight, wt]
      have : s.cps.size = s.length := rfl
      omega
  | .int i, g => by
    simp only [Gd] at g
    obtain ⟨h1, h2, h3⟩ := int_small g
    refine ⟨.int i, by simp [D.pyE], by simpa only [PyData.leavesShort, decide_eq_true_eq] using h3, by simpa only [PyData.showable, decide_eq_true_eq] using h2, by simp [PyData.depth], by simp only [wt]; omega⟩
  | .ref n, g => by
    simp only [Gd] at g
    refine ⟨.dict [], by simp [D.pyE, g], by simp [PyData.leavesShort, PyData.leavesShortKv], by simp [PyData.showable, PyData.showableKv], by simp [PyData.depth, PyData.depthKv, dp], by simp [PyData.weight, PyData.weightKv, wt]⟩
  | .non, _ => ⟨.none, by simp [D.pyE], rfl, rfl, by simp [PyData.depth], by simp [PyData.weight, wt]⟩
  | .bl b, _ => ⟨.bool b, by simp [D.pyE], rfl, rfl, by simp [PyData.depth], by simp [PyData.weight, wt]⟩
  | .arg _, g => by simp only [Gd] at g
  | .sp _ _ _, g => by simp only [Gd] at g
theorem gdL_py {h : Hh} : ∀ {l : List D}, GdL h l → ∃ ps, pyAllE h l = some ps ∧ PyData.leavesShortAll 8 ps = true ∧ PyData.showableAll ps = true ∧ PyData.depthAll ps ≤ dpL l ∧ PyData.weightAll ps ≤ 2 * wtL l
  | [], _ => ⟨[], by simp [pyAllE], rfl, rfl, Nat.zero_le _, Nat.zero_le _⟩
  | x :: l, g => by
    simp only [GdL] at g
    obtain ⟨p, e1, a1, a2, a3, a4⟩ := gd_py g.1
    obtain ⟨ps, e2, b1, b2, b3, b4⟩ := gdL_py g.2
    refine ⟨p :: ps, by simp [pyAllE, e1, e2], by simp only [PyData.leavesShortAll, a1, b1, Bool.and_self], by simp only [PyData.showableAll, a2, b2, Bool.and_self], by simp only [PyData.depthAll, dpL]; omega, by simp only [PyData.weightAll, wtL]; omega⟩
end
mutual
theorem py_E {h : Hh} : ∀ {d : D} {p : PyData}, d.py = some p → Gd h d → d.pyE h = some p ∧ p.hasDict = false
  | .tup l, p, e, g => by
    simp only [Gd] at g
    obtain ⟨ps, e1, rfl⟩ := py_tup e
    obtain ⟨a, b⟩ := pyL_E e1 g
    exact ⟨by simp [D.pyE, a], by simpa only [PyData.hasDict] using b⟩
  | .lst l, p, e, g => by
    simp only [Gd] at g
    obtain ⟨ps, e1, rfl⟩ := py_lst e
    obtain ⟨a, b⟩ := pyL_E e1 g
    exact ⟨by simp [D.pyE, a], by simpa only [PyData.hasDict] using b⟩
  | .str s, p, e, _ => by rw [py_str e]; exact ⟨by simp [D.pyE], rfl⟩
  | .int i, p, e, _ => by rw [py_int e]; exact ⟨by simp [D.pyE], rfl⟩
  | .ref n, p, e, _ => by simp [D.py] at e
  | .non, p, e, _ => by rw [py_non e]; exact ⟨by simp [D.pyE], rfl⟩
  | .bl b, p, e, _ => by simp only [D.py, Option.some.injEq] at e; subst e; exact ⟨by simp [D.pyE], rfl⟩
  | .arg _, _, _, g => by simp only [Gd] at g
  | .sp _ _ _, _, _, g => by simp only [Gd] at g
theorem pyL_E {h : Hh} : ∀ {l : List D} {ps : List PyData}, pyAll l = some ps → GdL h l → pyAllE h l = some ps ∧ PyData.hasDictAll ps = false
  | [], ps, e, _ => by simp [pyAll] at e; subst e; exact ⟨by simp [pyAllE], rfl⟩
  | x :: l, ps, e, g => by
    simp only [GdL] at g
    unfold pyAll at e
    cases e1 : x.py with
    | none => rw [e1] at e; simp at e
    | some p =>
      cases e2 : pyAll l with
      | none => rw [e1, e2] at e; simp at e
      | some qs =>
        rw [e1, e2] at e
        simp at e
        subst e
        obtain ⟨a, b⟩ := py_E e1 g.1
        obtain ⟨c, d⟩ := pyL_E e2 g.2
        exact ⟨by simp [pyAllE, a, c], by simp only [PyData.hasDictAll, b, d, Bool.or_self]⟩
end
/-- its text can be told -/
theorem Gd.text {h : Hh} {d : D} (g : Gd h d) (z : wt d ≤ 800000 := by omega) (y : dp d ≤ 60 := by omega) : ∃ s : Str, bltF h .repr [d] = some (.dat (.str s)) := by
  obtain ⟨p, e, h1, h2, h3, h4⟩ := gd_py g
  have len : p.shown.length ≤ sizeLine := by
    have := PyData.shown_le 8 (by decide) p h1
    rw [sizeLine_eq]; omega
  have rE : reprE h d = some (.dat (.str p.shown)) := by
    unfold reprE
    rw [e]
    exact if_pos (by rw [h2, decide_eq_true len, decide_eq_true (by omega : p.depth ≤ 64)]; rfl)
  show ∃ s, reprF h [d] = _
  unfold reprF
  cases q : (R.dat d).pyH h with
  | none => exact ⟨p.shown, by simp only [q, rE]⟩
  | some p2 =>
    have e2 : d.py = some p2 := by
      cases d with
      | ref n => simp only [Gd] at g; simp [R.pyH, g] at q
      | _ => exact q
    obtain ⟨e3, nd⟩ := py_E e2 g
    rw [e] at e3
    obtain rfl := Option.some.inj e3
    refine ⟨p.shown, ?_⟩
    simp only [q]
    exact if_pos (by rw [h2, nd, decide_eq_true len, decide_eq_true (by omega : p.depth ≤ 64)]; rfl)
/-! ### taken apart, put together -/
theorem wt_pos {d : D} : 1 ≤ wt d := by cases d <;> simp only [wt] <;> omega
theorem wtL_app : ∀ {a b : List D}, wtL (a ++ b) = wtL a + wtL b
  | [], b => by simp [wtL]
  | x :: a, b => by simp only [List.cons_append, wtL, wtL_app (a := a)]; omega
theorem dpL_app : ∀ {a b : List D}, dpL (a ++ b) = max (dpL a) (dpL b)
  | [], b => by simp [dpL]
  | x :: a, b => by simp only [List.cons_append, dpL, dpL_app (a := a)]; omega
theorem wtL_in : ∀ {l : List D} {x : D}, x ∈ l → wt x ≤ wtL l
  | y :: l, x, h => by
    simp only [wtL]
    rcases List.mem_cons.mp h with rfl | h
    · omega
    · have := wtL_in h; omega
theorem dpL_in : ∀ {l : List D} {x : D}, x ∈ l → dp x ≤ dpL l
  | y :: l, x, h => by
    simp only [dpL]
    rcases List.mem_cons.mp h with rfl | h
    · omega
    · have := dpL_in h; omega
theorem wtL_len : ∀ {l : List D}, l.length ≤ wtL l
  | [] => by simp [wtL]
  | x :: l => by
    have := wtL_len (l := l)
    have := wt_pos (d := x)
    simp only [wtL, List.length_cons]; omega
theorem wtL_cut {l : List D} (i : Nat) : wtL (l.take i) + wtL (l.drop i) = wtL l := by rw [← wtL_app, List.take_append_drop]
theorem dpL_le {c : Nat} : ∀ {l : List D}, (∀ x ∈ l, dp x ≤ c) → dpL l ≤ c
  | [], _ => Nat.zero_le _
  | x :: l, h => by
    have := h x List.mem_cons_self
    have := dpL_le (l := l) fun y hy => h y (List.mem_cons_of_mem _ hy)
    simp only [dpL]; omega
theorem wtL_rev : ∀ {l : List D}, wtL l.reverse = wtL l
  | [] => rfl
  | x :: l => by rw [List.reverse_cons, wtL_app, wtL_rev (l := l)]; simp only [wtL]; omega
def atW : D → List Nat → D
  | d, [] => d
  | .tup l, i :: w => atW (l.getD i .non) w
  | d, _ :: _ => d
def VW : D → List Nat → Prop
  | _, [] => True
  | .tup l, i :: w => i < l.length ∧ VW (l.getD i .non) w
  | _, _ :: _ => False
def putW : D → List Nat → D → D
  | _, [], x => x
  | .tup l, i :: w, x => .tup (l.take i ++ [putW (l.getD i .non) w x] ++ l.drop (i + 1))
  | d, _ :: _, _ => d
theorem getD_in {l : List D} {i : Nat} (h : i < l.length) : l.getD i .non ∈ l := by
  rw [List.getD_eq_getElem?_getD, List.getElem?_eq_getElem h]
  exact List.getElem_mem h
theorem at_gd {h : Hh} : ∀ {w : List Nat} {d : D}, VW d w → Gd h d → Gd h (atW d w) ∧ wt (atW d w) ≤ wt d ∧ w.length + dp (atW d w) ≤ dp d
  | [], d, _, g => ⟨by simpa only [atW] using g, by simp only [atW]; omega, by simp only [atW, List.length_nil]; omega⟩
  | i :: w, .tup l, v, g => by
    simp only [VW] at v
    have hi := getD_in v.1
    obtain ⟨a, b, c⟩ := at_gd v.2 (gd_tup.mp g _ hi)
    have := wtL_in hi
    have := dpL_in hi
    exact ⟨by simpa only [atW] using a, by simp only [atW, wt]; omega, by simp only [atW, dp, List.length_cons]; omega⟩
  | _ :: _, .lst _, v, _ => by simp only [VW] at v
  | _ :: _, .str _, v, _ => by simp only [VW] at v
  | _ :: _, .int _, v, _ => by simp only [VW] at v
  | _ :: _, .ref _, v, _ => by simp only [VW] at v
  | _ :: _, .non, v, _ => by simp only [VW] at v
  | _ :: _, .bl _, v, _ => by simp only [VW] at v
  | _ :: _, .arg _, v, _ => by simp only [VW] at v
  | _ :: _, .sp _ _ _, v, _ => by simp only [VW] at v
theorem put_gd {h : Hh} {x : D} (gx : Gd h x) : ∀ {w : List Nat} {d : D}, VW d w → Gd h d → Gd h (putW d w x) ∧ wt (putW d w x) + wt (atW d w) = wt d + wt x ∧ dp (putW d w x) ≤ max (dp d) (w.length + dp x)
  | [], d, _, g => ⟨by simpa only [putW] using gx, by simp only [putW, atW]; omega, by simp only [putW, List.length_nil]; omega⟩
  | i :: w, .tup l, v, g => by
    simp only [VW] at v
    have hi := getD_in v.1
    obtain ⟨a, b, c⟩ := put_gd gx v.2 (gd_tup.mp g _ hi)
    have di := dpL_in hi
    have el : l = l.take i ++ [l.getD i .non] ++ l.drop (i + 1) := by
      rw [List.getD_eq_getElem?_getD, List.getElem?_eq_getElem v.1]
      simp
    have wl : wtL l = wtL (l.take i) + wt (l.getD i .non) + wtL (l.drop (i + 1)) := by
      conv => lhs; rw [el]
      rw [wtL_app, wtL_app]
      simp only [wtL]; omega
    have d1 : dpL (l.take i) ≤ dpL l := dpL_le fun y hy => dpL_in (List.mem_of_mem_take hy)
    have d2 : dpL (l.drop (i + 1)) ≤ dpL l := dpL_le fun y hy => dpL_in (List.mem_of_mem_drop hy)
    refine ⟨?_, ?_, ?_⟩
    · simp only [putW]
      refine gd_tup.mpr fun y hy => ?_
      rw [List.mem_append, List.mem_append, List.mem_singleton] at hy
      rcases hy with (hy | rfl) | hy
      · exact gd_tup.mp g _ (List.mem_of_mem_take hy)
      · exact a
      · exact gd_tup.mp g _ (List.mem_of_mem_drop hy)
    · simp only [putW, atW, wt, wtL_app, wtL]; omega
    · simp only [putW, dp, dpL_app, dpL, List.length_cons]; omega
  | _ :: _, .lst _, v, _ => by simp only [VW] at v
  | _ :: _, .str _, v, _ => by simp only [VW] at v
  | _ :: _, .int _, v, _ => by simp only [VW] at v
  | _ :: _, .ref _, v, _ => by simp only [VW] at v
  | _ :: _, .non, v, _ => by simp only [VW] at v
  | _ :: _, .bl _, v, _ => by simp only [VW] at v
  | _ :: _, .arg _, v, _ => by simp only [VW] at v
  | _ :: _, .sp _ _ _, v, _ => by simp only [VW] at v
end Mi
/-! Mi47: spots of a thing, put, at, truths: walked. -/
namespace Mi
open PySem PySem.Spec PyProof.Rows L2
variable {X : Exc → Hh → Prop}
def fn__law_spots : Fn := ⟨2, 5, (.cons (.asg 2 (.lst (.cons (.var 1) .nil))) (.cons (.for' (.tp [3, 4]) (.enum (.ite (.isi (.var 0) .tuple) (.var 0) (.tup .nil))) (.cons (.asg 2 (.bin .add (.var 2) (.call "_law_spots" (.cons (.var 4) (.cons (.bin .add (.var 1) (.lst (.cons (.var 3) .nil))) .nil))))) .nil)) (.cons (.ret (.var 2)) .nil)))⟩
def fn__law_at : Fn := ⟨2, 3, (.cons (.for' (.nm 2) (.seq (.var 1)) (.cons (.asg 0 (.ix (.var 0) (.var 2))) .nil)) (.cons (.ret (.var 0)) .nil))⟩
def fn__law_put : Fn := ⟨3, 4, (.cons (.ifs (.cmp .eq (.var 1) (.lst .nil)) (.cons (.ret (.var 2)) .nil) .nil) (.cons (.asg 3 (.ix (.var 1) (.con (.int 0)))) (.cons (.ret (.bin .add (.bin .add (.sl (.var 0) .no (.part (.var 3))) (.tup (.cons (.call "_law_put" (.cons (.ix (.var 0) (.var 3)) (.cons (.sl (.var 1) (.part (.con (.int 1))) .no) (.cons (.var 2) .nil)))) .nil))) (.sl (.var 0) (.part (.bin .add (.var 3) (.con (.int 1)))) .no))) .nil)))⟩
def fn__law_odd : Fn := ⟨1, 2, (.cons (.asg 1 (.lst (.cons (.con .non) (.cons (.con (.int 5)) (.cons (.neg (.con (.int 1))) (.cons (.con (.int 100)) (.cons (.con (.bl true)) (.cons (.con (.str "any")) (.cons (.con (.str "x")) (.cons (.con (.str "")) (.cons (.tup .nil) (.cons (.lst .nil) (.cons (.dct [] .nil) (.cons (.tup (.cons (.con (.str "any")) .nil)) (.cons (.tup (.cons (.con (.str "is")) (.cons (.con (.int 3)) .nil))) (.cons (.tup (.cons (.con (.str "is")) (.cons (.con (.bl true)) .nil))) (.cons (.tup (.cons (.con (.str "is")) (.cons (.con (.int 100)) .nil))) .nil))))))))))))))))) (.cons (.asg 1 (.bin .add (.var 1) (.lst (.cons (.tup (.cons (.con (.str "name")) (.cons (.con (.str "x")) .nil))) (.cons (.tup (.cons (.con (.str "name")) (.cons (.con (.str "end")) .nil))) (.cons (.tup (.cons (.con (.str "name")) (.cons (.con (.str "seventh")) .nil))) (.cons (.tup (.cons (.con (.str "hole")) (.cons (.con (.str "x")) .nil))) (.cons (.tup (.cons (.con (.str "use")) (.cons (.con (.str "x")) (.cons (.tup .nil) .nil)))) (.cons (.con (.str "end")) .nil))))))))) (.cons (.asg 1 (.bin .add (.var 1) (.lst (.cons (.tup (.cons (.con (.str "rest")) (.cons (.tup (.cons (.con (.str "any")) .nil)) .nil))) (.cons (.tup (.cons (.con (.str "one")) (.cons (.tup (.cons (.con (.str "any")) .nil)) .nil))) (.cons (.tup (.cons (.con (.str "stretch")) (.cons (.tup (.cons (.con (.str "any")) .nil)) .nil))) (.cons (.tup (.cons (.con (.str "row")) (.cons (.tup .nil) .nil))) (.cons (.tup (.cons (.con (.str "lot")) (.cons (.lst .nil) .nil))) .nil)))))))) (.cons (.asg 1 (.bin .add (.var 1) (.lst (.cons (.tup (.cons (.con (.str "both")) (.cons (.tup (.cons (.con (.str "any")) .nil)) .nil))) (.cons (.tup (.cons (.con (.int 5)) .nil)) (.cons (.tup (.cons (.con (.str "rule")) (.cons (.con (.str "x")) (.cons (.tup .nil) (.cons (.tup (.cons (.con (.str "any")) .nil)) .nil))))) (.cons (.lst (.cons (.con (.str "any")) .nil)) (.cons (.tup (.cons (.con (.str "not")) (.cons (.tup (.cons (.con (.str "any")) .nil)) .nil))) (.cons (.con (.str "Any")) .nil))))))))) (.cons (.asg 1 (.bin .add (.var 1) (.lst (.cons (.con (.str "stretch")) (.cons (.tup (.cons (.con (.str "any")) (.cons (.con (.int 1)) .nil))) (.cons (.tup (.cons (.con (.str "use")) (.cons (.con (.str "x")) .nil))) .nil)))))) (.cons (.ret (.ix (.var 1) (.call "_law_draw" (.cons (.var 0) (.cons (.blt .len (.cons (.var 1) .nil)) .nil))))) .nil))))))⟩
def fn__law_spoilt : Fn := ⟨2, 8, (.cons (.asgs [2, 3] (.tup (.cons (.call "_law_draw" (.cons (.var 0) (.cons (.con (.int 3)) .nil))) (.cons (.call "_law_spots" (.cons (.var 1) (.cons (.lst .nil) .nil))) .nil)))) (.cons (.asg 4 (.ix (.var 3) (.call "_law_draw" (.cons (.var 0) (.cons (.blt .len (.cons (.var 3) .nil)) .nil))))) (.cons (.asg 5 (.call "_law_at" (.cons (.var 1) (.cons (.var 4) .nil)))) (.cons (.ifs (.or2 (.cmp .eq (.var 2) (.con (.int 0))) (.not1 (.isi (.var 5) .tuple))) (.cons (.ret (.call "_law_put" (.cons (.var 1) (.cons (.var 4) (.cons (.call "_law_odd" (.cons (.var 0) .nil)) .nil))))) .nil) .nil) (.cons (.asg 6 (.call "_law_draw" (.cons (.var 0) (.cons (.bin .add (.blt .len (.cons (.var 5) .nil)) (.con (.int 1))) .nil)))) (.cons (.asg 7 (.lst (.cons (.bin .add (.sl (.var 5) .no (.part (.var 6))) (.sl (.var 5) (.part (.bin .add (.var 6) (.con (.int 1)))) .no)) (.cons (.bin .add (.bin .add (.sl (.var 5) .no (.part (.var 6))) (.sl (.sl (.var 5) .no (.part (.var 6))) (.part (.neg (.con (.int 1)))) .no)) (.sl (.var 5) (.part (.var 6)) .no)) (.cons (.rev (.var 5)) (.cons (.blt .toList (.cons (.var 5) .nil)) .nil)))))) (.cons (.ret (.call "_law_put" (.cons (.var 1) (.cons (.var 4) (.cons (.ix (.bin .add (.var 7) (.lst (.cons (.bin .add (.var 5) (.tup (.cons (.tup (.cons (.con (.str "any")) .nil)) .nil))) .nil))) (.call "_law_draw" (.cons (.var 0) (.cons (.con (.int 5)) .nil)))) .nil))))) .nil)))))))⟩
def fn__law_truths : Fn := ⟨1, 2, (.cons (.ifs (.isi (.var 0) .tuple) (.cons (.ret (.blt .toTuple (.cons (.comp [1] (.nm 1) (.seq (.var 0)) (.con (.bl true)) (.call "_law_truths" (.cons (.var 1) .nil))) .nil))) .nil) .nil) (.cons (.ret (.ite (.and2 (.isi (.var 0) .int) (.cmp .isin (.var 0) (.tup (.cons (.con (.int 0)) (.cons (.con (.int 1)) .nil))))) (.cmp .eq (.var 0) (.con (.int 1))) (.var 0))) .nil))⟩
abbrev wayD (w : List Nat) : D := .lst (w.map fun i : Nat => D.int (i : Nat))
theorem w_addLs {a b : List D} {x : R} {h : Hh} {Q : R → Hh → Prop} (e : lv h x = some b) (z : a.length + b.length ≤ 1000000) (p : Q (.new (a ++ b)) h) : evX X (Res.of h (binF h .add (.dat (.lst a)) x)) Q := by
  refine w_of ?_ p
  have q : addF h (.dat (.lst a)) x = match lv h (.dat (.lst a)), lv h x with
    | some a, some b => if a.length + b.length ≤ sizeLine then some (.new (a ++ b)) else none
    | _, _ => none := by
    cases x with
    | dat d => cases d <;> rfl
    | _ => rfl
  show addF h (.dat (.lst a)) x = _
  rw [q, e]
  show (if a.length + b.length ≤ sizeLine then some (R.new (a ++ b)) else none) = _
  rw [if_pos (by rw [sizeLine_eq]; omega)]
theorem atN {l : List D} {i : Nat} (h : i < l.length) : atI l ((i : Nat) : Int) = some (l.getD i .non) := by
  rw [atI_in (by omega) (show ((i : Nat) : Int).toNat < l.length by omega)]
  simp [List.getD_eq_getElem?_getD, h]
theorem cut_1' {x : D} {l : List D} : cutD (x :: l) (some 1) none = l := by rw [cut_from (by omega)]; rfl
section
variable {T : Tab} {G : Str → Option D} {n : Nat} {h : Hh} {d : D}
theorem spots_ok (tS : T "_law_spots" = some fn__law_spots) : ∀ (k n : Nat) (d : D) (way : List Nat), dp d ≤ k → Lo h d → wt d ≤ 400000 → way.length + k ≤ 200 →
    evX X (run T G (n + k + 1) "_law_spots" [d, wayD way] h) fun r g => g = h ∧ ∃ ps : List (List Nat), r = .dat (.lst (ps.map fun p => wayD (way ++ p))) ∧ (∀ p ∈ ps, VW d p) ∧ 0 < ps.length ∧ ps.length ≤ wt d := by
  intro k
  induction k with
  | zero =>
    intro n d way hd o _ hw
    have s0 := o.seen
    refine v_run tS rfl ?_
    unfold fn__law_spots
    simp only [Fn.env, List.map_cons, List.map_nil, Nat.reduceSub, List.replicate_succ, List.replicate_zero, List.cons_append, List.nil_append]
    walk_at "run"
    refine w_isT s0 ?_
    cases d with
    | tup l => simp only [dp] at hd; omega
    | _ =>
      show evX _ (brR (.dat (.bl false)) _ _) _
      walk_at "run"
      refine w_ofR (a := []) rfl ?_
      rw [show enumL 0 [] = [] from rfl]
      refine ev_for (fun _ e g => g = h ∧ e = _) ⟨rfl, rfl⟩ (fun i x e g hx _ => by simp at hx) ?_
      rintro e g ⟨rfl, rfl⟩
      walk_at "run"
      exact ⟨rfl, [[]], by simp, fun p hp => by rw [List.mem_singleton.mp hp]; simp only [VW], by simp, wt_pos⟩
  | succ k ih =>
    intro n d way hd o hz hw
    have s0 := o.seen
    refine v_run tS rfl ?_
    unfold fn__law_spots
    simp only [Fn.env, List.map_cons, List.map_nil, Nat.reduceSub, List.replicate_succ, List.replicate_zero, List.cons_append, List.nil_append]
    walk_at "run"
    refine w_isT s0 ?_
    cases d with
    | tup l =>
      simp only [dp] at hd
      simp only [wt] at hz
      show evX _ (brR (.dat (.bl true)) _ _) _
      walk_at "run"
      refine w_ofR (a := l) rfl ?_
      refine ev_for (fun i e g => g = h ∧ ∃ (ps : List (List Nat)) (s3 s4 : Slot), e = [.val (.tup l), .val (wayD way), .val (.lst (ps.map fun p => wayD (way ++ p))), s3, s4] ∧ (∀ p ∈ ps, VW (.tup l) p) ∧ 0 < ps.length ∧ ps.length ≤ 1 + wtL (l.take i))
        ⟨rfl, [[]], .un, .un, by simp, fun p hp => by rw [List.mem_singleton.mp hp]; simp only [VW], by simp, by simp⟩ ?_ ?_
      · rintro i x e g hx ⟨rfl, ps, s3, s4, rfl, h1, h2, h3⟩
        obtain ⟨y, hy, rfl⟩ := enum_get hx
        have hi := (List.getElem?_eq_some_iff.mp hy).1
        have hm := List.mem_of_getElem? hy
        have w1 := wtL_in hm
        have d1 := dpL_in hm
        have wc := wtL_cut (l := l) i
        refine ⟨_, rfl, ?_⟩
        simp only [setV, List.set_cons_succ, List.set_cons_zero]
        walk_at "run"
        refine w_addLs (b := [.int ((0 + i : Nat) : Int)]) rfl (by rw [List.length_map]; simp; omega) ?_
        walk_at "run"
        rw [show (D.lst ((way.map fun i : Nat => D.int (i : Nat)) ++ [.int ((0 + i : Nat) : Int)])) = wayD (way ++ [i]) by simp]
        refine ev_mono (ih n y (way ++ [i]) (by omega) (o.inT hm) (by omega) (by simp; omega)) ?_
        rintro r g1 ⟨rfl, qs, rfl, q1, q2, q3⟩
        have et : l.take (i + 1) = l.take i ++ [y] := by rw [List.take_add_one, hy]; rfl
        have wk : wtL (l.take (i + 1)) = wtL (l.take i) + wt y := by rw [et, wtL_app]; simp only [wtL]; omega
        refine w_addLs (b := qs.map fun p => wayD (way ++ [i] ++ p)) rfl (by
          rw [List.length_map, List.length_map]
          have := wtL_cut (l := l) (i + 1)
          omega) ?_
        walk_at "run"
        refine ⟨rfl, ps ++ qs.map (i :: ·), .val (.int ((0 + i : Nat) : Int)), .val y, ?_, ?_, by simp; omega, by rw [wk, List.length_append, List.length_map]; omega⟩
        · simp
        · intro p hp
          rcases List.mem_append.mp hp with hp | hp
          · exact h1 p hp
          · obtain ⟨q, hq, rfl⟩ := List.mem_map.mp hp
            simp only [VW]
            refine ⟨hi, ?_⟩
            rw [List.getD_eq_getElem?_getD, hy]
            exact q1 q hq
      · rintro e g ⟨rfl, ps, s3, s4, rfl, h1, h2, h3⟩
        walk_at "run"
        rw [enum_length, List.take_length] at h3
        exact ⟨rfl, ps, rfl, h1, h2, by simpa only [wt] using h3⟩
    | _ =>
      show evX _ (brR (.dat (.bl false)) _ _) _
      walk_at "run"
      refine w_ofR (a := []) rfl ?_
      rw [show enumL 0 [] = [] from rfl]
      refine ev_for (fun _ e g => g = h ∧ e = _) ⟨rfl, rfl⟩ (fun i x e g hx _ => by simp at hx) ?_
      rintro e g ⟨rfl, rfl⟩
      walk_at "run"
      exact ⟨rfl, [[]], by simp, fun p hp => by rw [List.mem_singleton.mp hp]; simp only [VW], by simp, wt_pos⟩
theorem at_ok (tA : T "_law_at" = some fn__law_at) {w : List Nat} (v : VW d w) : run T G (n + 1) "_law_at" [d, wayD w] h = .ok (.dat (atW d w)) h := by
  refine ev_eq (v_run tA rfl ?_)
  unfold fn__law_at
  simp only [Fn.env, List.map_cons, List.map_nil, Nat.reduceSub, List.replicate_succ, List.replicate_zero, List.cons_append, List.nil_append]
  walk_at "run"
  refine ev_for (fun i e g => g = h ∧ ∃ x s2, e = [.val x, .val (wayD w), s2] ∧ VW x (w.drop i) ∧ atW x (w.drop i) = atW d w) ⟨rfl, d, _, rfl, by simpa using v, by simp⟩ ?_ ?_
  · rintro i y e g hy ⟨rfl, x, s2, rfl, h1, h2⟩
    rw [List.getElem?_map, Option.map_eq_some_iff] at hy
    obtain ⟨j, hj, rfl⟩ := hy
    refine ⟨_, rfl, ?_⟩
    simp only [setV, List.set_cons_succ, List.set_cons_zero]
    rw [show w.drop i = j :: w.drop (i + 1) by rw [← (List.getElem?_eq_some_iff.mp hj).2, List.getElem_cons_drop]] at h1 h2
    cases x with
    | tup l =>
      simp only [VW] at h1
      simp only [atW] at h2
      walk_at "run"
      refine w_ixT (d := l.getD j .non) (atN h1.1) ?_
      walk_at "run"
      exact ⟨rfl, _, _, rfl, h1.2, h2⟩
    | _ => simp only [VW] at h1
  · rintro e g ⟨rfl, x, s2, rfl, h1, h2⟩
    rw [List.length_map, List.drop_length] at h2
    simp only [atW] at h2
    walk_at "run"
    exact ⟨by rw [h2], rfl⟩
theorem put_ok (tP : T "_law_put" = some fn__law_put) {x : D} : ∀ (w : List Nat) (n : Nat) (d : D), VW d w → Lo h d → wt d ≤ 400000 → run T G (n + w.length + 1) "_law_put" [d, wayD w, x] h = .ok (.dat (putW d w x)) h
  | [], n, d, _, _, _ => by
    refine ev_eq (v_run tP rfl ?_)
    unfold fn__law_put
    simp only [Fn.env, List.map_cons, List.map_nil, Nat.reduceSub, List.replicate_succ, List.replicate_zero, List.cons_append, List.nil_append]
    walk_at "run"
    refine w_ofR (a := true) rfl ?_
    walk_at "run"
    exact ⟨by simp only [putW], rfl⟩
  | i :: w, n, d, v, o, hz => by
    cases d with
    | tup l =>
      simp only [VW] at v
      simp only [wt] at hz
      have hm := getD_in v.1
      have w1 := wtL_in hm
      have ll := wtL_len (l := l)
      refine ev_eq (v_run tP rfl ?_)
      unfold fn__law_put
      simp only [Fn.env, List.map_cons, List.map_nil, Nat.reduceSub, List.replicate_succ, List.replicate_zero, List.cons_append, List.nil_append]
      walk_at "run"
      refine w_ofR (a := false) rfl ?_
      walk_at "run"
      refine w_ixF (d := .int (i : Nat)) (atI_in (by omega) (by simp)) ?_
      walk_at "run"
      refine w_ixT (d := l.getD i .non) (atN v.1) ?_
      walk_at "run"
      rw [show cutD ((i :: w).map fun i : Nat => D.int (i : Nat)) (some 1) none = w.map fun i : Nat => D.int (i : Nat) from cut_1']
      walk_at "run"
      refine ev_of (put_ok tP w n (l.getD i .non) v.2 (o.inT hm) (by omega)) ?_
      walk_at "run"
      rw [cut_toN]
      refine w_addT (le_big (by rw [List.length_take]; simp only [List.length_singleton]; omega)) ?_
      walk_at "run"
      rw [show ((i : Nat) : Int) + 1 = ((i + 1 : Nat) : Int) by omega, cut_fromN]
      refine w_addT (le_big (by rw [List.length_append, List.length_take, List.length_drop]; simp only [List.length_singleton]; omega)) ?_
      walk_at "run"
      exact ⟨by simp only [putW], rfl⟩
    | _ => simp only [VW] at v
end
end Mi
/-! Mi48: truths for numbers, odd things, things spoilt. -/
namespace Mi
open PySem PySem.Spec PyProof.Rows L2
variable {X : Exc → Hh → Prop}
/-! ### truths -/
mutual
def trD : D → D
  | .tup l => .tup (trL l)
  | .int i => if i = 0 ∨ i = 1 then .bl (decide (i = 1)) else .int i
  | d => d
def trL : List D → List D
  | [] => []
  | x :: l => trD x :: trL l
end
theorem trL_map : ∀ l : List D, trL l = l.map trD
  | [] => rfl
  | x :: l => by simp only [trL, List.map_cons, trL_map l]
mutual
theorem tr_gd {h : Hh} : ∀ {d : D}, Gd h d → Gd h (trD d) ∧ wt (trD d) = wt d ∧ dp (trD d) = dp d
  | .tup l, g => by
    simp only [Gd] at g
    obtain ⟨a, b, c⟩ := trL_gd g
    exact ⟨by simp only [trD, Gd]; exact a, by simp only [trD, wt, b], by simp only [trD, dp, c]⟩
  | .int i, g => by
    simp only [trD]
    split
    · exact ⟨by simp only [Gd], by simp only [wt], by simp only [dp]⟩
    · exact ⟨g, rfl, rfl⟩
  | .lst l, g => ⟨by simpa only [trD] using g, by simp only [trD], by simp only [trD]⟩
  | .str l, g => ⟨by simpa only [trD] using g, by simp only [trD], by simp only [trD]⟩
  | .ref l, g => ⟨by simpa only [trD] using g, by simp only [trD], by simp only [trD]⟩
  | .non, g => ⟨by simpa only [trD] using g, by simp only [trD], by simp only [trD]⟩
  | .bl b, g => ⟨by simpa only [trD] using g, by simp only [trD], by simp only [trD]⟩
  | .arg b, g => by simp only [Gd] at g
  | .sp _ _ _, g => by simp only [Gd] at g
theorem trL_gd {h : Hh} : ∀ {l : List D}, GdL h l → GdL h (trL l) ∧ wtL (trL l) = wtL l ∧ dpL (trL l) = dpL l
  | [], _ => ⟨by simp only [trL, GdL], rfl, rfl⟩
  | x :: l, g => by
    simp only [GdL] at g
    obtain ⟨a, b, c⟩ := tr_gd g.1
    obtain ⟨a2, b2, c2⟩ := trL_gd g.2
    exact ⟨by simp only [trL, GdL]; exact ⟨a, a2⟩, by simp only [trL, wtL, b, b2], by simp only [trL, dpL, c, c2]⟩
end
theorem in_01 {h : Hh} {i : Int} : cmpF h .isin (.dat (.int i)) (.dat (.tup [.int 0, .int 1])) = some (decide (i = 0 ∨ i = 1)) := by
  show inF h (.dat (.int i)) (.dat (.tup [.int 0, .int 1])) = _
  have e : inF h (.dat (.int i)) (.dat (.tup [.int 0, .int 1])) = some (inV (.int i) [V.int 0, V.int 1]) := rfl
  rw [e]
  congr 1
  have q : inV (.int i) [V.int 0, V.int 1] = ((0 : Int) == i || ((1 : Int) == i || false)) := rfl
  rw [q, Bool.eq_iff_iff, decide_eq_true_eq]
  simp only [Bool.or_false, Bool.or_eq_true, beq_iff_eq]
  omega
section
variable {T : Tab} {G : Str → Option D} {n : Nat} {h : Hh} {d : D}
theorem truths_ok (tT : T "_law_truths" = some fn__law_truths) : ∀ (k n : Nat) (d : D), dp d ≤ k → Gd h d → wt d ≤ 400000 → run T G (n + k + 1) "_law_truths" [d] h = .ok (.dat (trD d)) h := by
  intro k
  have one : ∀ (n : Nat) (d : D), isTup d = false → Gd h d → run T G (n + 1) "_law_truths" [d] h = .ok (.dat (trD d)) h := fun n d nt g => by
    have s0 := g.lo.seen
    refine ev_eq (v_run tT rfl ?_)
    unfold fn__law_truths
    simp only [Fn.env, List.map_cons, List.map_nil, Nat.reduceSub, List.replicate_succ, List.replicate_zero, List.cons_append, List.nil_append]
    walk_at "run"
    cases d with
    | tup l => cases nt
    | int i =>
      walk_at "run"
      refine w_ofR in_01 ?_
      by_cases c : i = 0 ∨ i = 1
      · rw [decide_eq_true c]
        walk_at "run"
        exact ⟨by simp only [trD, if_pos c], rfl⟩
      · rw [decide_eq_false c]
        walk_at "run"
        exact ⟨by simp only [trD, if_neg c], rfl⟩
    | bl b =>
      walk_at "run"
      refine w_ofR (a := true) (by cases b <;> rfl) ?_
      walk_at "run"
      refine w_ofR (a := b) (by cases b <;> rfl) ?_
      walk_at "run"
      exact ⟨by simp only [trD], rfl⟩
    | ref r =>
      refine w_isT s0 ?_
      show evX _ (brR (.dat (.bl false)) _ _) _
      walk_at "run"
      refine w_isI s0 ?_
      show evX _ (brR (.dat (.bl false)) _ _) _
      walk_at "run"
      exact ⟨by simp only [trD], rfl⟩
    | arg l => simp only [Gd] at g
    | sp _ _ _ => simp only [Gd] at g
    | _ =>
      walk_at "run"
      exact ⟨by simp only [trD], rfl⟩
  induction k with
  | zero =>
    intro n d hd g _
    refine one n d ?_ g
    cases d with
    | tup l => simp only [dp] at hd; omega
    | _ => rfl
  | succ k ih =>
    intro n d hd g hz
    cases d with
    | tup l =>
      simp only [dp] at hd
      simp only [wt] at hz
      have ll := wtL_len (l := l)
      refine ev_eq (v_run tT rfl ?_)
      unfold fn__law_truths
      simp only [Fn.env, List.map_cons, List.map_nil, Nat.reduceSub, List.replicate_succ, List.replicate_zero, List.cons_append, List.nil_append]
      walk_at "run"
      have fact : ∀ s1, compR (run T G (n + (k + 1))) G [1] (.nm 1) (.con (.bl true)) (.call "_law_truths" (.cons (.var 1) .nil)) [.val (.tup l), s1] l h = .ok (.new (l.map trD)) h := fun s1 => by
        unfold compR
        rw [comp_map trD (by rw [sizeLine_eq]; simp only [List.length_nil]; omega) fun x hx => ?_]
        · rw [List.nil_append]
        · refine ev_eq ?_
          show evX _ (compG _ _ _ _ _ h) _
          simp only [setV, wipeE, List.set_cons_succ, List.set_cons_zero]
          walk_at "run"
          have := wtL_in hx
          have := dpL_in hx
          refine ev_of (ih n x (by omega) (gd_tup.mp g x hx) (by omega)) ?_
          walk_at "run"
          exact ⟨rfl, rfl⟩
      rw [fact]
      walk_at "run"
      exact ⟨by simp only [trD, trL_map], rfl⟩
    | _ => exact one (n + k + 1) _ rfl g
end
/-! ### odd things -/
def gdB : Nat → D → Bool
  | k + 1, .tup l => l.all (gdB k)
  | k + 1, .lst l => l.all (gdB k)
  | _, .str s => wdB 1000 s
  | _, .int i => decide (-1000 ≤ i) && decide (i ≤ 1000)
  | _, .non => true
  | _, .bl _ => true
  | _, _ => false
theorem gdB_ok {h : Hh} : ∀ {k : Nat} {d : D}, gdB k d = true → Gd h d
  | k + 1, .tup l, e => gd_tup.mpr fun x hx => gdB_ok (List.all_eq_true.mp (show l.all (gdB k) = true from e) x hx)
  | k + 1, .lst l, e => gd_lst.mpr fun x hx => gdB_ok (List.all_eq_true.mp (show l.all (gdB k) = true from e) x hx)
  | 0, .str s, e => by simp only [Gd]; exact Wd.of e
  | k + 1, .str s, e => by simp only [Gd]; exact Wd.of e
  | 0, .int i, e => by simp only [Gd]; simpa [gdB] using e
  | k + 1, .int i, e => by simp only [Gd]; simpa [gdB] using e
  | 0, .non, _ => by simp only [Gd]
  | k + 1, .non, _ => by simp only [Gd]
  | 0, .bl _, _ => by simp only [Gd]
  | k + 1, .bl _, _ => by simp only [Gd]
/-- small things -/
structure Odd (h : Hh) (d : D) : Prop where
  g : Gd h d
  w : wt d ≤ 60
  p : dp d ≤ 3
def oddB (d : D) : Bool := gdB 9 d && decide (wt d ≤ 60) && decide (dp d ≤ 3)
theorem oddB_all {h : Hh} {l : List D} (e : l.all oddB = true) : ∀ x ∈ l, Odd h x := fun x hx => by
  have := List.all_eq_true.mp e x hx
  simp only [oddB, Bool.and_eq_true, decide_eq_true_eq] at this
  exact ⟨gdB_ok this.1.1, this.1.2, this.2⟩
theorem odd_ref {h : Hh} {n : Nat} (e : h[n]? = some (.dct [])) : Odd h (.ref n) := ⟨by simp only [Gd]; exact e, by simp only [wt]; omega, by simp only [dp]; omega⟩
theorem w_addLP {P : D → Prop} {a b : List D} {h : Hh} {Q : R → Hh → Prop} (ha : ∀ x ∈ a, P x) (hb : ∀ x ∈ b, P x) (za : 0 < a.length) (z : a.length + b.length ≤ 1000) (p : ∀ c : List D, (∀ x ∈ c, P x) → 0 < c.length → c.length ≤ a.length + b.length → Q (.new c) h) : evX X (Res.of h (binF h .add (.dat (.lst a)) (.new b))) Q :=
  w_addLs (b := b) rfl (by omega) (p _ (fun x hx => (List.mem_append.mp hx).elim (ha x) (hb x)) (by rw [List.length_append]; omega) (by rw [List.length_append]; exact Nat.le_refl _))
theorem Kp.more {m li : Nat} {h : Hh} {o : List O} : Kp m li h (h ++ o) := ⟨by simp, fun j hj _ _ => by rw [List.getElem?_append_left hj]⟩
section
variable {T : Tab} {G : Str → Option D} {n : Nat} {h : Hh} {m ci li : Nat} {b : Int}
theorem odd_ok (tM : T "_law_mixed" = some f_mixed) (tD : T "_law_draw" = some f_draw) (tO : T "_law_odd" = some fn__law_odd) (d : Dr h m ci li b) (hb : b < 2 ^ 50) : evX X (run T G (n + 3) "_law_odd" [.ref m] h) fun r g => ∃ x, r = .dat x ∧ Odd g x ∧ Dr g m ci li (b + 1) ∧ Kp m li h g := by
  refine v_run tO rfl ?_
  unfold fn__law_odd
  simp only [Fn.env, List.map_cons, List.map_nil, Nat.reduceSub, List.replicate_succ, List.replicate_zero, List.cons_append, List.nil_append]
  walk_at "run"
  have eg : (h ++ [O.dct (List.zip [] [])])[h.length]? = some (.dct []) := by simp
  have d0 : Dr (h ++ [O.dct (List.zip [] [])]) m ci li b := d.more _
  have k0 : Kp m li h (h ++ [O.dct (List.zip [] [])]) := Kp.more
  have hlt := d.lt
  generalize hr : h.length = rr at eg hlt ⊢
  generalize h ++ [O.dct (List.zip [] [])] = g0 at eg d0 k0 ⊢
  refine w_addLP (P := Odd g0) (fun x hx => ?_) (oddB_all (by decide +kernel)) (by simp) (by simp) fun c1 o1 p1 z1 => ?_
  · have all : ∀ x ∈ [D.non, D.int 5, D.int (-1), D.int 100, D.bl true, D.str "any", D.str "x", D.str "", D.tup [], D.lst []] ++ [D.tup [.str "any"], D.tup [.str "is", .int 3], D.tup [.str "is", .bl true], D.tup [.str "is", .int 100]], Odd g0 x := oddB_all (by decide +kernel)
    by_cases q : x = .ref rr
    · rw [q]; exact odd_ref eg
    · refine all x ?_
      simp only [List.mem_cons, List.not_mem_nil, or_false, List.cons_append, List.nil_append] at hx ⊢
      rcases hx with h | h | h | h | h | h | h | h | h | h | h | h | h | h | h
      all_goals first
        | exact absurd h q
        | simp [h]
  simp only [List.length_cons, List.length_nil] at z1
  walk_at "run"
  refine w_addLP (P := Odd g0) o1 (oddB_all (by decide +kernel)) p1 (by simp; omega) fun c2 o2 p2 z2 => ?_
  simp only [List.length_cons, List.length_nil] at z2
  walk_at "run"
  refine w_addLP (P := Odd g0) o2 (oddB_all (by decide +kernel)) p2 (by simp; omega) fun c3 o3 p3 z3 => ?_
  simp only [List.length_cons, List.length_nil] at z3
  walk_at "run"
  refine w_addLP (P := Odd g0) o3 (oddB_all (by decide +kernel)) p3 (by simp; omega) fun c4 o4 p4 z4 => ?_
  simp only [List.length_cons, List.length_nil] at z4
  walk_at "run"
  refine ev_mono (draw_ok (n := n) tM tD d0 (by omega) (by omega) (by omega)) ?_
  rintro r g1 ⟨x, rfl, x0, x1, d1, e1⟩
  refine w_pickL x0 x1 fun v hv => ?_
  have ov := o4 v hv
  walk_at "run"
  exact ⟨v, rfl, ⟨ov.g.on (Ke.of e1 d0), ov.w, ov.p⟩, d1, k0.trans e1⟩
end
end Mi
/-! Mi49: things spoilt. -/
namespace Mi
open PySem PySem.Spec PyProof.Rows L2
variable {X : Exc → Hh → Prop}
theorem wtL_take {l : List D} {i : Nat} : wtL (l.take i) ≤ wtL l := by have := wtL_cut (l := l) i; omega
theorem wtL_drop2 {l : List D} {i : Nat} : wtL (l.drop i) ≤ wtL l := by have := wtL_cut (l := l) i; omega
theorem wtL_cutD {l : List D} {lo hi : Option Int} : wtL (cutD l lo hi) ≤ wtL l := Nat.le_trans wtL_take wtL_drop2
/-- a row made of a thing's own parts -/
structure Mk (h : Hh) (W P : Nat) (d : D) : Prop where
  g : Gd h d
  w : wt d ≤ W
  p : dp d ≤ P
theorem mk_tup {h : Hh} {l : List D} {W P : Nat} (g : ∀ x ∈ l, Gd h x ∧ dp x ≤ P) (w : wtL l ≤ W) : Mk h (1 + W) (1 + P) (.tup l) :=
  ⟨gd_tup.mpr fun x hx => (g x hx).1, by simp only [wt]; omega, by
    have := dpL_le (l := l) (c := P) fun x hx => (g x hx).2
    simp only [dp]; omega⟩
theorem mk_lst {h : Hh} {l : List D} {W P : Nat} (g : ∀ x ∈ l, Gd h x ∧ dp x ≤ P) (w : wtL l ≤ W) : Mk h (1 + W) (1 + P) (.lst l) :=
  ⟨gd_lst.mpr fun x hx => (g x hx).1, by simp only [wt]; omega, by
    have := dpL_le (l := l) (c := P) fun x hx => (g x hx).2
    simp only [dp]; omega⟩
section
variable {T : Tab} {G : Str → Option D} {n : Nat} {h : Hh} {m ci li : Nat} {b : Int} {d : D}
structure LSp (T : Tab) : Prop where
  mixed : T "_law_mixed" = some f_mixed
  draw : T "_law_draw" = some f_draw
  spots : T "_law_spots" = some fn__law_spots
  at_ : T "_law_at" = some fn__law_at
  put : T "_law_put" = some fn__law_put
  odd : T "_law_odd" = some fn__law_odd
  spoilt : T "_law_spoilt" = some fn__law_spoilt
theorem spoilt_ok2 (W : LSp T) (dr : Dr h m ci li b) (hb : b < 2 ^ 49) (g : Gd h d) (hz : wt d ≤ 200000) (hp : dp d ≤ 50) :
    evX X (run T G (n + 60) "_law_spoilt" [.ref m, d] h) fun r g' => ∃ x, r = .dat x ∧ Gd g' x ∧ wt x ≤ 2 * wt d + 70 ∧ dp x ≤ dp d + 3 ∧ Dr g' m ci li (b + 4) ∧ Kp m li h g' := by
  refine v_run W.spoilt rfl ?_
  unfold fn__law_spoilt
  simp only [Fn.env, List.map_cons, List.map_nil, Nat.reduceSub, List.replicate_succ, List.replicate_zero, List.cons_append, List.nil_append]
  walk_at "run"
  refine ev_mono (draw_ok (n := n + 57) W.mixed W.draw dr (by omega) (by decide) (by decide)) ?_
  rintro r h1 ⟨way, rfl, w0, w1, d1, e1⟩
  have g1 := g.on (Ke.of e1 dr)
  walk_at "run"
  refine ev_mono (spots_ok (X := X) (G := G) (h := h1) W.spots 50 (n + 8) d [] hp g1.lo (by omega) (by simp)) ?_
  rintro r h2 ⟨rfl, ps, rfl, hv, hps, hpl⟩
  simp only [List.nil_append]
  walk_at "run"
  refine ev_mono (draw_ok (n := n + 57) W.mixed W.draw d1 (by omega) (by rw [List.length_map]; omega) (by rw [List.length_map]; omega)) ?_
  rintro r h3 ⟨pos, rfl, p0, p1, d3, e3⟩
  have g3 := g1.on (Ke.of e3 d1)
  have k3 := e1.trans e3
  refine w_pickL p0 (by simpa using p1) fun v hvm => ?_
  obtain ⟨w, hw, ew⟩ := List.mem_map.mp hvm
  have vw := hv w hw
  rw [← ew]
  clear hvm ew hv hps hpl p0 p1
  obtain ⟨ga, wa, pa⟩ := at_gd vw g3
  have wl : w.length ≤ 50 := by omega
  walk_at "run"
  refine ev_of (at_ok (n := n + 58) W.at_ vw) ?_
  have puts : ∀ (y : D) (hh : Hh) (W' P' : Nat), Gd hh d → Mk hh W' P' y → Gd hh (putW d w y) ∧ wt (putW d w y) + wt (atW d w) ≤ wt d + W' ∧ dp (putW d w y) ≤ max (dp d) (w.length + P') := fun y hh W' P' gd k => by
    obtain ⟨q1, q2, q3⟩ := put_gd k.g vw gd
    have := k.w
    have := k.p
    exact ⟨q1, by omega, by omega⟩
  have lv : ∀ k, k + w.length + 1 = k + w.length + 1 := fun _ => rfl
  have a0 := ga.lo.seen
  walk_at "run"
  have oddc : evX X (execSs (run T G (n + 59)) G (.cons (.ret (.call "_law_put" (.cons (.var 1) (.cons (.var 4) (.cons (.call "_law_odd" (.cons (.var 0) .nil)) .nil))))) .nil) [.val (.ref m), .val d, .val (.int way), .val (.lst (ps.map fun p => wayD p)), .val (wayD w), .val (atW d w), .un, .un] h3)
      (fun fl g' => ∃ x, fl = .rt (.dat x) ∧ Gd g' x ∧ wt x ≤ 2 * wt d + 70 ∧ dp x ≤ dp d + 3 ∧ Dr g' m ci li (b + 4) ∧ Kp m li h g') := by
    walk_at "run"
    refine ev_mono (odd_ok (n := n + 56) W.mixed W.draw W.odd d3 (by omega)) ?_
    rintro r h4 ⟨y, rfl, oy, d4, e4⟩
    have g4 := g3.on (Ke.of e4 d3)
    walk_at "run"
    have := put_ok (G := G) (h := h4) W.put (x := y) w (n + 58 - w.length) d vw g4.lo (by omega)
    rw [show n + 58 - w.length + w.length + 1 = n + 59 by omega] at this
    refine ev_of this ?_
    obtain ⟨q1, q2, q3⟩ := puts y h4 60 3 g4 ⟨oy.g, oy.w, oy.p⟩
    walk_at "run"
    exact ⟨_, rfl, q1, by omega, by omega, d4.mono (by omega), k3.trans e4⟩
  have out : ∀ (fl : Fl) (g' : Hh), (∃ x, fl = .rt (.dat x) ∧ Gd g' x ∧ wt x ≤ 2 * wt d + 70 ∧ dp x ≤ dp d + 3 ∧ Dr g' m ci li (b + 4) ∧ Kp m li h g') → ∀ k, contFX X (endQ fun r g' => ∃ x, r = .dat x ∧ Gd g' x ∧ wt x ≤ 2 * wt d + 70 ∧ dp x ≤ dp d + 3 ∧ Dr g' m ci li (b + 4) ∧ Kp m li h g') k fl g' := fun fl g' z k => by
    obtain ⟨d, rfl, z⟩ := z
    exact ⟨d, rfl, z⟩
  refine ev_br (fun h5 => ?_) (fun h5 => ?_)
  · repeat first | with_reducible refine ev_mono oddc (fun fl h' z => out fl h' z _) | walk_at "one"
  walk_at "run"
  refine w_isT a0 ?_
  by_cases nt : isTup (atW d w) = false
  · rw [nt]
    repeat first | with_reducible refine ev_mono oddc (fun fl h' z => out fl h' z _) | walk_at "one"
  clear oddc out
  obtain ⟨l, el⟩ : ∃ l, atW d w = .tup l := by
    cases q : atW d w with
    | tup l => exact ⟨l, rfl⟩
    | _ => rw [q] at nt; exact absurd rfl nt
  clear nt
  rw [el] at ga wa pa puts ⊢
  simp only [wt, dp] at wa pa
  have ll := wtL_len (l := l)
  have gl : ∀ x ∈ l, Gd h3 x ∧ dp x ≤ dpL l + 1 := fun x hx => ⟨gd_tup.mp ga x hx, by have := dpL_in hx; omega⟩
  show evX _ (notR (.dat (.bl true)) _) _
  walk_at "run"
  refine ev_mono (draw_ok (n := n + 57) W.mixed W.draw d3 (by omega) (by omega) (by omega)) ?_
  rintro r h4 ⟨q, rfl, q0, q1, d4, e4⟩
  have gl4 : ∀ x ∈ l, Gd h4 x ∧ dp x ≤ dpL l + 1 := fun x hx => ⟨(gl x hx).1.on (Ke.of e4 d3), (gl x hx).2⟩
  have g4 := g3.on (Ke.of e4 d3)
  have cl : ∀ {l' : List D} {lo hi : Option Int}, l'.length ≤ 200000 → (cutD l' lo hi).length ≤ 200000 := fun hl => Nat.le_trans cut_len hl
  have l1 : l.length ≤ 200000 := by omega
  walk_at "run"
  refine w_addT (le_big (by have := @cl l none (some q) l1; have := @cl l (some (q + 1)) none l1; omega)) ?_
  walk_at "run"
  refine w_addT (le_big (by have := @cl l none (some q) l1; have := @cl (cutD l none (some q)) (some (-1)) none this; omega)) ?_
  walk_at "run"
  refine w_addT (le_big (by
    have a1 := @cl l none (some q) l1
    have a2 := @cl (cutD l none (some q)) (some (-1)) none a1
    have a3 := @cl l (some q) none l1
    rw [List.length_append]; omega)) ?_
  walk_at "run"
  refine w_toL2 ?_
  walk_at "run"
  refine w_addT (le_big (by simp; omega)) ?_
  walk_at "run"
  have menu : ∀ x ∈ [D.tup (cutD l none (some q) ++ cutD l (some (q + 1)) none), D.tup (cutD l none (some q) ++ cutD (cutD l none (some q)) (some (-1)) none ++ cutD l (some q) none), D.tup l.reverse, D.lst l] ++ [D.tup (l ++ [D.tup [.str "any"]])], Mk h4 (1 + (2 * wtL l + 6)) (1 + (dpL l + 1)) x := fun x hx => by
    simp only [List.mem_cons, List.not_mem_nil, or_false, List.cons_append, List.nil_append] at hx
    have c1 := @wtL_cutD l none (some q)
    have c2 := @wtL_cutD l (some (q + 1)) none
    have c3 := @wtL_cutD (cutD l none (some q)) (some (-1)) none
    have c4 : wtL (cutD l none (some q)) + wtL (cutD l (some q) none) ≤ wtL l := by
      rw [cut_to q0, cut_from q0, wtL_cut]; omega
    rcases hx with rfl | rfl | rfl | rfl | rfl
    · refine mk_tup (fun x hx => gl4 x ?_) (by rw [wtL_app]; omega)
      rcases List.mem_append.mp hx with hx | hx <;> exact cut_in hx
    · refine mk_tup (fun x hx => gl4 x ?_) (by rw [wtL_app, wtL_app]; omega)
      rcases List.mem_append.mp hx with hx | hx
      · rcases List.mem_append.mp hx with hx | hx
        · exact cut_in hx
        · exact cut_in (cut_in hx)
      · exact cut_in hx
    · exact mk_tup (fun x hx => gl4 x (List.mem_reverse.mp hx)) (by rw [wtL_rev]; omega)
    · exact mk_lst gl4 (by omega)
    · refine mk_tup (fun x hx => ?_) (by
        rw [wtL_app]
        have : wtL [D.tup [.str "any"]] = 5 := by decide +kernel
        omega)
      rcases List.mem_append.mp hx with hx | hx
      · exact gl4 x hx
      · rw [List.mem_singleton.mp hx]
        exact ⟨gdB_ok (k := 3) (by decide +kernel), by simp only [dp, dpL]; omega⟩
  refine w_addLs (b := [D.tup (l ++ [D.tup [.str "any"]])]) rfl (by simp) ?_
  walk_at "run"
  refine ev_mono (draw_ok (n := n + 57) W.mixed W.draw d4 (by omega) (by decide) (by decide)) ?_
  rintro r h5 ⟨z, rfl, z0, z1, d5, e5⟩
  refine w_pickN z0 (by simpa using z1) fun y hy => ?_
  have my := menu y hy
  clear menu hy z0 z1
  have g5 := g4.on (Ke.of e5 d4)
  have my5 : Mk h5 (1 + (2 * wtL l + 6)) (1 + (dpL l + 1)) y := ⟨my.g.on (Ke.of e5 d4), my.w, my.p⟩
  walk_at "run"
  have := put_ok (G := G) (h := h5) W.put (x := y) w (n + 58 - w.length) d vw g5.lo (by omega)
  rw [show n + 58 - w.length + w.length + 1 = n + 59 by omega] at this
  refine ev_of this ?_
  obtain ⟨q1, q2, q3⟩ := puts y h5 _ _ g5 my5
  simp only [wt] at q2
  walk_at "run"
  exact ⟨_, rfl, q1, by omega, by omega, d5.mono (by omega), (k3.trans e4).trans e5⟩
end
end Mi
/-! Mi50: patterns drawn. -/
namespace Mi
open PySem PySem.Spec PyProof.Rows L2
variable {X : Exc → Hh → Prop}
def fn__law_item_parts : Fn := ⟨6, 9, (.cons (.own 6 (.lst .nil)) (.cons (.for' (.nm 7) (.rng1 (.call "_law_draw" (.cons (.var 0) (.cons (.con (.int 4)) .nil)))) (.cons (.asg 8 (.ite (.cmp .eq (.var 5) (.con (.str "row"))) (.ix (.lst (.cons (.con (.str "one")) (.cons (.con (.str "one")) (.cons (.con (.str "stretch")) .nil)))) (.call "_law_draw" (.cons (.var 0) (.cons (.con (.int 3)) .nil)))) (.con (.str "one")))) (.cons (.app 6 (.tup (.cons (.var 8) (.cons (.call "_law_pattern" (.cons (.var 0) (.cons (.var 1) (.cons (.var 2) (.cons (.var 3) (.cons (.var 4) .nil)))))) .nil)))) .nil))) (.cons (.ifs (.cmp .gt (.call "_law_draw" (.cons (.var 0) (.cons (.con (.int 3)) .nil))) (.con (.int 0))) (.cons (.app 6 (.tup (.cons (.ite (.cmp .eq (.var 5) (.con (.str "row"))) (.con (.str "stretch")) (.con (.str "rest"))) (.cons (.call "_law_pattern" (.cons (.var 0) (.cons (.var 1) (.cons (.var 2) (.cons (.var 3) (.cons (.var 4) .nil)))))) .nil)))) .nil) .nil) (.cons (.frz 6) (.cons (.ret (.blt .toTuple (.cons (.var 6) .nil))) .nil)))))⟩
def fn__law_pattern : Fn := ⟨5, 11, (.cons (.asg 5 (.call "_law_draw" (.cons (.var 0) (.cons (.con (.int 16)) .nil)))) (.cons (.setL (.var 4) (.con (.int 0)) (.bin .sub (.ix (.var 4) (.con (.int 0))) (.con (.int 1)))) (.cons (.asg 6 (.lst (.cons (.tup (.cons (.con (.str "any")) .nil)) (.cons (.tup (.cons (.con (.str "name")) (.cons (.ix (.var 1) (.call "_law_draw" (.cons (.var 0) (.cons (.con (.int 2)) .nil)))) .nil))) (.cons (.tup (.cons (.con (.str "name")) (.cons (.ix (.var 1) (.call "_law_draw" (.cons (.var 0) (.cons (.blt .len (.cons (.var 1) .nil)) .nil)))) .nil))) (.cons (.tup (.cons (.con (.str "is")) (.cons (.call "_law_leaf" (.cons (.var 0) .nil)) .nil))) .nil)))))) (.cons (.ifs (.or2 (.cmp .lt (.var 3) (.con (.int 2))) (.or2 (.cmp .lt (.ix (.var 4) (.con (.int 0))) (.con (.int 4))) (.cmp .lt (.var 5) (.con (.int 5))))) (.cons (.ret (.ix (.bin .add (.var 6) (.lst (.cons (.tup (.cons (.con (.str "is")) (.cons (.call "_law_row" (.cons (.var 0) (.cons (.con (.int 2)) .nil))) .nil))) .nil))) (.bin .mod (.var 5) (.con (.int 5))))) .nil) .nil) (.cons (.ifs (.and2 (.cmp .lt (.var 5) (.con (.int 7))) (.cmp .ne (.var 2) (.lst .nil))) (.cons (.asg 7 (.ix (.var 2) (.call "_law_draw" (.cons (.var 0) (.cons (.blt .len (.cons (.var 2) .nil)) .nil))))) (.cons (.ifs (.cmp .eq (.ix (.var 7) (.con (.int 0))) (.con (.str "hole"))) (.cons (.ret (.var 7)) .nil) .nil) (.cons (.asg 8 (.comp [10] (.nm 10) (.seq (.ix (.var 7) (.con (.int 2)))) (.con (.bl true)) (.call "_law_pattern" (.cons (.var 0) (.cons (.var 1) (.cons (.var 2) (.cons (.bin .sub (.var 3) (.con (.int 1))) (.cons (.var 4) .nil)))))))) (.cons (.ret (.bin .add (.sl (.var 7) .no (.part (.con (.int 2)))) (.tup (.cons (.blt .toTuple (.cons (.var 8) .nil)) .nil)))) .nil)))) .nil) (.cons (.ifs (.cmp .lt (.var 5) (.con (.int 12))) (.cons (.asg 9 (.ite (.cmp .gt (.var 5) (.con (.int 6))) (.ix (.lst (.cons (.con (.str "row")) (.cons (.con (.str "row")) (.cons (.con (.str "row")) (.cons (.con (.str "lot")) (.cons (.con (.str "row")) .nil)))))) (.bin .sub (.var 5) (.con (.int 7)))) (.con (.str "lot")))) (.cons (.ret (.tup (.cons (.var 9) (.cons (.call "_law_item_parts" (.cons (.var 0) (.cons (.var 1) (.cons (.var 2) (.cons (.bin .sub (.var 3) (.con (.int 1))) (.cons (.var 4) (.cons (.var 9) .nil))))))) .nil)))) .nil)) .nil) (.cons (.ifs (.cmp .lt (.var 5) (.con (.int 14))) (.cons (.asg 10 (.call "_law_pattern" (.cons (.var 0) (.cons (.var 1) (.cons (.var 2) (.cons (.bin .sub (.var 3) (.con (.int 1))) (.cons (.var 4) .nil))))))) (.cons (.ret (.tup (.cons (.ix (.lst (.cons (.con (.str "both")) (.cons (.con (.str "either")) .nil))) (.bin .sub (.var 5) (.con (.int 12)))) (.cons (.var 10) (.cons (.call "_law_pattern" (.cons (.var 0) (.cons (.var 1) (.cons (.var 2) (.cons (.bin .sub (.var 3) (.con (.int 1))) (.cons (.var 4) .nil)))))) .nil))))) .nil)) .nil) (.cons (.asg 9 (.ix (.lst (.cons (.con (.str "not")) (.cons (.con (.str "first")) (.cons (.con (.str "turned")) (.cons (.con (.str "all")) .nil))))) (.call "_law_draw" (.cons (.var 0) (.cons (.con (.int 4)) .nil))))) (.cons (.ret (.tup (.cons (.var 9) (.cons (.call "_law_pattern" (.cons (.var 0) (.cons (.var 1) (.cons (.var 2) (.cons (.bin .sub (.var 3) (.con (.int 1))) (.cons (.var 4) .nil)))))) .nil)))) .nil)))))))))⟩
def wb : Nat → Nat
  | 0 => 60
  | k + 1 => 4 * (wb k + 20) + 20
def nb : Nat → Int
  | 0 => 320
  | k + 1 => 4 * nb k + 340
theorem wb_ge : ∀ k, 60 ≤ wb k
  | 0 => Nat.le_refl _
  | k + 1 => by have := wb_ge k; simp only [wb]; omega
theorem nb_ge : ∀ k, 320 ≤ nb k
  | 0 => Int.le_refl _
  | k + 1 => by have := nb_ge k; simp only [nb]; omega
/-- a drawn pattern: no dicts in it -/
structure Pat (W P : Nat) (d : D) : Prop where
  g : ∀ h : Hh, Gd h d
  w : wt d ≤ W
  p : dp d ≤ P
theorem Pat.le {W P W' P' : Nat} {d : D} (p : Pat W P d) (h1 : W ≤ W' := by omega) (h2 : P ≤ P' := by omega) : Pat W' P' d := ⟨p.g, Nat.le_trans p.w h1, Nat.le_trans p.p h2⟩
theorem pat_tup {l : List D} {W P : Nat} (g : ∀ x ∈ l, ∀ h : Hh, Gd h x) (w : wtL l ≤ W) (p : dpL l ≤ P) : Pat (1 + W) (1 + P) (.tup l) :=
  ⟨fun h => gd_tup.mpr fun x hx => g x hx h, by simp only [wt]; omega, by simp only [dp]; omega⟩
theorem pat_str {s : Str} {k : Nat} (h : Wd k s) (hk : k ≤ 1000) : Pat (1 + k) 0 (.str s) := ⟨fun _ => by simp only [Gd]; exact h.le hk, by simp only [wt]; have := h.1; omega, by simp only [dp]; omega⟩
theorem size_gd : ∀ (k : Nat) (d : D), 0 < sizeW k d → Pat (9 * sizeW k d) k d
  | 0, d, h => by simp [sizeW] at h
  | k + 1, d, h => by
    obtain ⟨j, ej, q⟩ := size_kind h
    cases ej
    rcases q with ⟨i, rfl, i0, i1⟩ | ⟨l, rfl, l10, hl⟩
    · have e : sizeW (k + 1) (.int i) = 1 := by
        show (if (decide (0 ≤ i) && decide (i ≤ 99)) = true then 1 else 0) = 1
        simp [i0, i1]
      rw [e]
      exact ⟨fun _ => by simp only [Gd]; omega, by simp only [wt]; omega, by simp only [dp]; omega⟩
    · have e : sizeW (k + 1) (.tup l) = if l.length ≤ 10 ∧ (∀ x ∈ l, 0 < sizeW k x) ∧ 1 + (l.map (sizeW k)).sum ≤ 60 then 1 + (l.map (sizeW k)).sum else 0 := size_tup
      have e2 : sizeW (k + 1) (.tup l) = 1 + (l.map (sizeW k)).sum := by
        rw [e] at h ⊢
        split
        · rfl
        · rename_i c; rw [if_neg c] at h; omega
      rw [e2]
      have ih := fun x hx => size_gd k x (hl x hx)
      have ws : ∀ l : List D, (∀ x ∈ l, Pat (9 * sizeW k x) k x) → wtL l ≤ 9 * (l.map (sizeW k)).sum := fun l => by
        induction l with
        | nil => intro _; simp [wtL]
        | cons x l ih2 =>
          intro hx
          have := (hx x List.mem_cons_self).w
          have := ih2 fun y hy => hx y (List.mem_cons_of_mem _ hy)
          simp only [wtL, List.map_cons, List.sum_cons]; omega
      refine (pat_tup (fun x hx => (ih x hx).g) (ws l ih) (dpL_le fun x hx => (ih x hx).p)).le
theorem tiny_pat {d : D} (t : tiny d) : Pat 27 2 d := by
  have := size_gd 2 d t.1
  have t2 := t.2
  exact this.le
end Mi
/-! Mi51: patterns drawn, walked. -/
namespace Mi
open PySem PySem.Spec PyProof.Rows L2
variable {X : Exc → Hh → Prop}
def Rm (h : Hh) (rr : Nat) : Prop := ∃ x : Int, h[rr]? = some (.lst [.int x])
/-- what is known to patterns: uses, holes -/
def Kn (x : D) : Prop := (∃ s, x = .tup [.str "hole", .str s] ∧ Wd 40 s) ∨ ∃ s l, x = .tup [.str "use", .str s, .tup l] ∧ Wd 40 s ∧ l.length ≤ 2
structure LPat (T : Tab) : Prop where
  mixed : T "_law_mixed" = some f_mixed
  draw : T "_law_draw" = some f_draw
  leaf : T "_law_leaf" = some fn__law_leaf
  row : T "_law_row" = some fn__law_row
  items : T "_law_item_parts" = some fn__law_item_parts
  pattern : T "_law_pattern" = some fn__law_pattern
structure Ask (h : Hh) (m ci li rr : Nat) (b : Int) (ws : List Str) (kn : List D) : Prop where
  dr : Dr h m ci li b
  rm : Rm h rr
  n1 : rr ≠ m
  n2 : rr ≠ ci
  n3 : rr ≠ li
  w2 : 2 ≤ ws.length
  w1 : ws.length ≤ 1000
  wd : ∀ w ∈ ws, Wd 40 w
  k1 : kn.length ≤ 100
  kn : ∀ x ∈ kn, Kn x
theorem Ask.kp {h g : Hh} {m ci li rr : Nat} {b b' : Int} {ws : List Str} {kn : List D} (a : Ask h m ci li rr b ws kn) (d : Dr g m ci li b') (k : Kp m li h g) : Ask g m ci li rr b' ws kn := by
  obtain ⟨x, e⟩ := a.rm
  exact ⟨d, ⟨x, k.at e a.n1 a.n3⟩, a.n1, a.n2, a.n3, a.w2, a.w1, a.wd, a.k1, a.kn⟩
theorem Ask.rt {h g : Hh} {m ci li rr : Nat} {b b' : Int} {ws : List Str} {kn : List D} (a : Ask h m ci li rr b ws kn) (d : Dr g m ci li b') (r : Rm g rr) : Ask g m ci li rr b' ws kn :=
  ⟨d, r, a.n1, a.n2, a.n3, a.w2, a.w1, a.wd, a.k1, a.kn⟩
theorem word_pat {w : Str} (h : Wd 40 w) : Pat 47 1 (.tup [.str "name", .str w]) := by
  have p1 : Pat (1 + 4) 0 (.str "name") := pat_str (k := 4) (Wd.of (by decide +kernel)) (by omega)
  have p2 : Pat (1 + 40) 0 (.str w) := pat_str h (by omega)
  have q1 := p1.w
  have q2 := p2.w
  refine (pat_tup (W := 46) (P := 0) (fun x hx => ?_) (by simp only [wtL]; omega) (by simp only [dpL, dp]; omega)).le
  simp only [List.mem_cons, List.not_mem_nil, or_false] at hx
  rcases hx with rfl | rfl
  · exact p1.g
  · exact p2.g
theorem is_pat {d : D} {W P : Nat} (p : Pat W P d) : Pat (W + 4) (P + 1) (.tup [.str "is", d]) := by
  have p1 : Pat (1 + 2) 0 (.str "is") := pat_str (k := 2) (Wd.of (by decide +kernel)) (by omega)
  have q1 := p1.w
  have q2 := p.w
  have q3 := p.p
  refine (pat_tup (W := W + 3) (P := P) (fun x hx => ?_) (by simp only [wtL]; omega) (by simp only [dpL, dp]; omega)).le
  simp only [List.mem_cons, List.not_mem_nil, or_false] at hx
  rcases hx with rfl | rfl
  · exact p1.g
  · exact p.g
theorem any_pat : Pat 60 4 (.tup [.str "any"]) := ⟨fun h => gdB_ok (k := 3) (by decide +kernel), by decide +kernel, by decide +kernel⟩
section
variable {T : Tab} {G : Str → Option D} {n : Nat} {h : Hh} {m ci li rr : Nat} {b : Int} {ws : List Str} {kn : List D}
/-- the first rows: small ones, drawn -/
theorem pat_head (W : LPat T) {k : Nat} {Q : Fl → Hh → Prop} {rest : Ss} (a : Ask h m ci li rr b ws kn) (hb : b < 2 ^ 46)
    (p : ∀ (way y : Int) (sm : List D) (g : Hh), 0 ≤ way → way < 16 → sm.length = 4 → (∀ x ∈ sm, Pat 60 4 x) → g[rr]? = some (.lst [.int y]) → Dr g m ci li (b + 6) → Kr m li rr h g →
      evX X (execSs (run T G (n + 8)) G rest [.val (.ref m), .val (.lst (ws.map .str)), .val (.lst kn), .val (.int (k : Nat)), .val (.ref rr), .val (.int way), .val (.lst sm), .un, .un, .un, .un] g) Q) :
    evX X (execSs (run T G (n + 8)) G (.cons (.asg 5 (.call "_law_draw" (.cons (.var 0) (.cons (.con (.int 16)) .nil)))) (.cons (.setL (.var 4) (.con (.int 0)) (.bin .sub (.ix (.var 4) (.con (.int 0))) (.con (.int 1)))) (.cons (.asg 6 (.lst (.cons (.tup (.cons (.con (.str "any")) .nil)) (.cons (.tup (.cons (.con (.str "name")) (.cons (.ix (.var 1) (.call "_law_draw" (.cons (.var 0) (.cons (.con (.int 2)) .nil)))) .nil))) (.cons (.tup (.cons (.con (.str "name")) (.cons (.ix (.var 1) (.call "_law_draw" (.cons (.var 0) (.cons (.blt .len (.cons (.var 1) .nil)) .nil)))) .nil))) (.cons (.tup (.cons (.con (.str "is")) (.cons (.call "_law_leaf" (.cons (.var 0) .nil)) .nil))) .nil)))))) rest)))
      [.val (.ref m), .val (.lst (ws.map .str)), .val (.lst kn), .val (.int (k : Nat)), .val (.ref rr), .un, .un, .un, .un, .un, .un] h) Q := by
  have w2 := a.w2
  have w1 := a.w1
  have lw : (ws.map D.str).length = ws.length := List.length_map ..
  walk_at "run"
  refine ev_mono (draw_ok (n := n + 6) W.mixed W.draw a.dr (by omega) (by decide) (by decide)) ?_
  rintro r h1 ⟨way, rfl, u0, u1, d1, e1⟩
  have a1 := a.kp d1 e1
  obtain ⟨x, ex⟩ := a1.rm
  walk_at "run"
  refine w_ixL ex (atI_in (by omega) (by simp)) ?_
  walk_at "run"
  refine v_setLR ex (ixN_in (by omega) (by simp)) ?_
  have d2 : Dr (h1.set rr (.lst ([D.int x].set (0 : Int).toNat (.int (x - 1))))) m ci li (b + 1) := d1.set a.n1 a.n2 a.n3
  have e2 : (h1.set rr (.lst ([D.int x].set (0 : Int).toNat (.int (x - 1)))))[rr]? = some (.lst [.int (x - 1)]) := get_set_self ex
  have k2 : Kr m li rr h (h1.set rr (.lst ([D.int x].set (0 : Int).toNat (.int (x - 1))))) := e1.kr.trans Kr.set
  change contFX X _ _ (.nx _) (h1.set rr (.lst ([D.int x].set (0 : Int).toNat (.int (x - 1)))))
  generalize h1.set rr (.lst ([D.int x].set (0 : Int).toNat (.int (x - 1)))) = h2 at d2 e2 k2 ⊢
  walk_at "run"
  refine ev_mono (draw_ok (n := n + 6) W.mixed W.draw d2 (by omega) (by decide) (by decide)) ?_
  rintro r h3 ⟨q, rfl, q0, q1, d3, e3⟩
  refine w_pickL q0 (by omega) fun v hv => ?_
  obtain ⟨s1, hs1, rfl⟩ := List.mem_map.mp hv
  walk_at "run"
  refine ev_mono (draw_ok (n := n + 6) W.mixed W.draw d3 (by omega) (by omega) (by omega)) ?_
  rintro r h4 ⟨q, rfl, q0, q1, d4, e4⟩
  refine w_pickL q0 (by omega) fun v hv => ?_
  obtain ⟨s2, hs2, rfl⟩ := List.mem_map.mp hv
  walk_at "run"
  refine ev_mono (dleaf_ok (n := n + 5) W.mixed W.draw W.leaf d4 (by omega)) ?_
  rintro r h5 ⟨i, rfl, i9, d5, e5⟩
  walk_at "run"
  have e6 := (e3.trans e4).trans e5
  refine p way (x - 1) [D.tup [.str "any"], D.tup [.str "name", .str s1], D.tup [.str "name", .str s2], D.tup [.str "is", .int (i : Nat)]] h5 u0 u1 rfl (fun z hz => ?_) (e6.at e2 a.n1 a.n3) (d5.mono (by omega)) (k2.trans e6.kr)
  simp only [List.mem_cons, List.not_mem_nil, or_false] at hz
  rcases hz with rfl | rfl | rfl | rfl
  · exact any_pat
  · exact (word_pat (a.wd _ hs1)).le
  · exact (word_pat (a.wd _ hs2)).le
  · exact (is_pat (W := 8) (P := 0) ⟨fun _ => by simp only [Gd]; omega, by simp only [wt]; omega, by simp only [dp]; omega⟩).le
end
end Mi
/-! Mi52: the parts of a drawn pattern. -/
namespace Mi
open PySem PySem.Spec PyProof.Rows L2
variable {X : Exc → Hh → Prop}
theorem pair_pat {k : Nat} {w : Str} {d : D} {W P : Nat} (hw : Wd k w) (hk : k ≤ 1000) (p : Pat W P d) : Pat (W + k + 2) (P + 1) (.tup [.str w, d]) := by
  have p1 : Pat (1 + k) 0 (.str w) := pat_str hw hk
  have q1 := p1.w
  have q2 := p.w
  have q3 := p.p
  refine (pat_tup (W := W + k + 1) (P := P) (fun x hx => ?_) (by simp only [wtL]; omega) (by simp only [dpL, dp]; omega)).le
  simp only [List.mem_cons, List.not_mem_nil, or_false] at hx
  rcases hx with rfl | rfl
  · exact p1.g
  · exact p.g
theorem both_pat {k : Nat} {w : Str} {d e : D} {W P : Nat} (hw : Wd k w) (hk : k ≤ 1000) (p : Pat W P d) (q : Pat W P e) : Pat (2 * W + k + 2) (P + 1) (.tup [.str w, d, e]) := by
  have p1 : Pat (1 + k) 0 (.str w) := pat_str hw hk
  have q1 := p1.w
  have q2 := p.w
  have q3 := p.p
  have q4 := q.w
  have q5 := q.p
  refine (pat_tup (W := 2 * W + k + 1) (P := P) (fun x hx => ?_) (by simp only [wtL]; omega) (by simp only [dpL, dp]; omega)).le
  simp only [List.mem_cons, List.not_mem_nil, or_false] at hx
  rcases hx with rfl | rfl | rfl
  · exact p1.g
  · exact p.g
  · exact q.g
theorem wtL_le {l : List D} {W : Nat} (h : ∀ x ∈ l, wt x ≤ W) : wtL l ≤ l.length * W := by
  induction l with
  | nil => simp [wtL]
  | cons x l ih =>
    have := h x List.mem_cons_self
    have := ih fun y hy => h y (List.mem_cons_of_mem _ hy)
    simp only [wtL, List.length_cons, Nat.add_mul, Nat.one_mul]; omega
theorem row_pat {l : List D} {W P c : Nat} (h : ∀ x ∈ l, Pat W P x) (hl : l.length ≤ c) : Pat (1 + c * W) (P + 1) (.tup l) := by
  have w := wtL_le (l := l) (W := W) fun x hx => (h x hx).w
  have := Nat.mul_le_mul_right W hl
  exact (pat_tup (W := c * W) (P := P) (fun x hx => (h x hx).g) (by omega) (dpL_le fun x hx => (h x hx).p)).le
section
variable {T : Tab} {G : Str → Option D} {n : Nat} {h : Hh} {m ci li rr : Nat} {b : Int} {ws : List Str} {kn : List D}
/-- patterns of one depth, drawn -/
def Drawn (T : Tab) (G : Str → Option D) (m ci li rr : Nat) (ws : List Str) (kn : List D) (N k W P : Nat) (c : Int) : Prop :=
  ∀ (X : Exc → Hh → Prop) (h : Hh) (b : Int), Ask h m ci li rr b ws kn → b + c < 2 ^ 45 → evX X (run T G N "_law_pattern" [.ref m, .lst (ws.map .str), .lst kn, .int (k : Nat), .ref rr] h)
    fun r g => ∃ d, r = .dat d ∧ Pat W P d ∧ Ask g m ci li rr (b + c) ws kn ∧ Kr m li rr h g
theorem dparts_ok (W' : LPat T) {k W P : Nat} {c : Int} {s : Str} (hd : Drawn T G m ci li rr ws kn (n + 5) k W P c) (c0 : 0 ≤ c) (a : Ask h m ci li rr b ws kn) (hb : b + (4 * c + 10) < 2 ^ 45) :
    evX X (run T G (n + 6) "_law_item_parts" [.ref m, .lst (ws.map .str), .lst kn, .int (k : Nat), .ref rr, .str s] h)
      fun r g => ∃ l, r = .dat (.tup l) ∧ l.length ≤ 4 ∧ (∀ x ∈ l, Pat (W + 9) (P + 1) x) ∧ Ask g m ci li rr (b + (4 * c + 10)) ws kn ∧ Kr m li rr h g := by
  refine v_run W'.items rfl ?_
  unfold fn__law_item_parts
  simp only [Fn.env, List.map_cons, List.map_nil, Nat.reduceSub, List.replicate_succ, List.replicate_zero, List.cons_append, List.nil_append]
  walk_at "run"
  refine ev_mono (draw_ok (n := n + 3) W'.mixed W'.draw a.dr (by omega) (by decide) (by decide)) ?_
  rintro r h1 ⟨many, rfl, m0, m1, d1, e1⟩
  have a1 := a.kp d1 e1
  have k1 := e1.kr (rr := rr)
  walk_at "run"
  refine ev_for (fun i env g => i ≤ many.toNat ∧ ∃ l s7 s8, env = [.val (.ref m), .val (.lst (ws.map .str)), .val (.lst kn), .val (.int (k : Nat)), .val (.ref rr), .val (.str s), .own l, s7, s8] ∧ l.length = i ∧ (∀ x ∈ l, Pat (W + 9) (P + 1) x) ∧ Ask g m ci li rr (b + 1 + (i : Nat) * (c + 1)) ws kn ∧ Kr m li rr h g)
    ⟨Nat.zero_le _, [], _, _, rfl, rfl, by simp, by simpa using a1, k1⟩ ?_ ?_
  · rintro i d e g hdd ⟨hi0, l, s7, s8, rfl, q1, q2, q3, q4⟩
    obtain ⟨hi, rfl⟩ := rngL_get hdd
    have hm5 : ((i : Nat) : Int) * (c + 1) + (c + 1) = ((i + 1 : Nat) : Int) * (c + 1) := by rw [show ((i + 1 : Nat) : Int) = (i : Nat) + 1 by omega, Int.add_mul, Int.one_mul]
    have hle : ((i + 1 : Nat) : Int) * (c + 1) ≤ 3 * (c + 1) := Int.mul_le_mul_of_nonneg_right (by omega) (by omega)
    refine ⟨_, rfl, ?_⟩
    have step : ∀ (w : Str) (g2 : Hh) {s9 : Slot}, Wd 7 w → Ask g2 m ci li rr (b + 1 + (i : Nat) * (c + 1) + 1) ws kn → Kr m li rr h g2 → evX X (execSs (run T G (n + 5)) G (.cons (.app 6 (.tup (.cons (.var 8) (.cons (.call "_law_pattern" (.cons (.var 0) (.cons (.var 1) (.cons (.var 2) (.cons (.var 3) (.cons (.var 4) .nil)))))) .nil)))) .nil)
        [.val (.ref m), .val (.lst (ws.map .str)), .val (.lst kn), .val (.int (k : Nat)), .val (.ref rr), .val (.str s), .own l, s9, .val (.str w)] g2) fun fl g' => ∃ env, fl = .nx env ∧ (i + 1 ≤ many.toNat ∧ ∃ l s7 s8, env = [.val (.ref m), .val (.lst (ws.map .str)), .val (.lst kn), .val (.int (k : Nat)), .val (.ref rr), .val (.str s), .own l, s7, s8] ∧ l.length = i + 1 ∧ (∀ x ∈ l, Pat (W + 9) (P + 1) x) ∧ Ask g' m ci li rr (b + 1 + ((i + 1 : Nat) : Int) * (c + 1)) ws kn ∧ Kr m li rr h g') := by
      intro w g2 s9 hw a2 k2
      walk_at "run"
      refine ev_mono (hd X g2 _ a2 (by omega)) ?_
      rintro r g3 ⟨d, rfl, pd, a3, k3⟩
      walk_at "run"
      have hl : l.length < sizeLine := by rw [sizeLine_eq]; omega
      with_reducible refine v_appR hl ?_
      walk_at "run"
      refine ⟨_, rfl, by omega, l ++ [.tup [.str w, d]], _, _, rfl, by simp; omega, fun z hz => ?_, ?_, k2.trans k3⟩
      · rcases List.mem_append.mp hz with w | w
        · exact q2 z w
        · rw [List.mem_singleton.mp w]; exact (pair_pat hw (by omega) pd).le
      · rw [show b + 1 + (i : Nat) * (c + 1) + 1 + c = b + 1 + ((i + 1 : Nat) : Int) * (c + 1) by omega] at a3; exact a3
    walk_at "run"
    refine ev_br (fun z0 => ?_) (fun z0 => ?_)
    · walk_at "run"
      refine ev_mono (draw_ok (n := n + 3) W'.mixed W'.draw q3.dr (by omega) (by decide) (by decide)) ?_
      rintro r g2 ⟨y, rfl, y0, y1, d2, e2⟩
      walk_at "run"
      refine w_pickN y0 y1 fun v hv => ?_
      obtain ⟨w, rfl, hw⟩ : ∃ w : Str, v = .str w ∧ Wd 7 w := by
        simp only [List.mem_cons, List.not_mem_nil, or_false] at hv
        rcases hv with rfl | rfl | rfl <;> exact ⟨_, rfl, Wd.of (by decide +kernel)⟩
      have s1 := step w g2 (s9 := .val (.int (0 + ((i : Nat) : Int)))) hw (q3.kp d2 e2) (q4.trans e2.kr)
      repeat first | with_reducible exact ev_mono s1 (fun fl g' z => by obtain ⟨_, rfl, z⟩ := z; exact z) | walk_at "one"
    · have s1 := step (Str.ofString "one") g (s9 := .val (.int (0 + ((i : Nat) : Int)))) (Wd.of (by decide +kernel)) (q3.rt (q3.dr.mono (by omega)) q3.rm) q4
      repeat first | with_reducible exact ev_mono s1 (fun fl g' z => by obtain ⟨_, rfl, z⟩ := z; exact z) | walk_at "one"
  · rintro e g ⟨hi0, l, s7, s8, rfl, q1, q2, q3, q4⟩
    rw [rngL_length] at q1 q3
    have hle : ((many.toNat : Nat) : Int) * (c + 1) ≤ 3 * (c + 1) := Int.mul_le_mul_of_nonneg_right (by omega) (by omega)
    have hl : l.length < sizeLine := by rw [sizeLine_eq]; omega
    walk_at "run"
    refine ev_mono (draw_ok (n := n + 3) W'.mixed W'.draw q3.dr (by omega) (by decide) (by decide)) ?_
    rintro r g2 ⟨y, rfl, y0, y1, d2, e2⟩
    have a2 := q3.kp d2 e2
    have k2 := q4.trans e2.kr
    walk_at "run"
    have last : ∀ (w : Str), Wd 7 w → evX X ((run T G (n + 5) "_law_pattern" [.ref m, .lst (ws.map .str), .lst kn, .int (k : Nat), .ref rr] g2)) (fun r g' => ∃ d, r = .dat d ∧ Pat (W + 9) (P + 1) (.tup [.str w, d]) ∧ Ask g' m ci li rr (b + (4 * c + 10)) ws kn ∧ Kr m li rr h g') := fun w hw => by
      refine ev_mono (hd X g2 _ a2 (by omega)) ?_
      rintro r g3 ⟨d, rfl, pd, a3, k3⟩
      exact ⟨d, rfl, (pair_pat hw (by omega) pd).le, a3.rt (a3.dr.mono (by omega)) a3.rm, k2.trans k3⟩
    refine ev_br (fun z0 => ?_) (fun z0 => ?_)
    · walk_at "run"
      refine ev_br (fun z0 => ?_) (fun z0 => ?_) <;> walk_at "run"
      · refine ev_mono (last (Str.ofString "stretch") (Wd.of (by decide +kernel))) ?_
        rintro r g3 ⟨d, rfl, pd, a3, k3⟩
        walk_at "run"
        with_reducible refine v_appR hl ?_
        walk_at "run"
        refine ⟨_, rfl, by simp; omega, fun z hz => ?_, a3, k3⟩
        rcases List.mem_append.mp hz with w | w
        · exact q2 z w
        · rw [List.mem_singleton.mp w]; exact pd
      · refine ev_mono (last (Str.ofString "rest") (Wd.of (by decide +kernel))) ?_
        rintro r g3 ⟨d, rfl, pd, a3, k3⟩
        walk_at "run"
        with_reducible refine v_appR hl ?_
        walk_at "run"
        refine ⟨_, rfl, by simp; omega, fun z hz => ?_, a3, k3⟩
        rcases List.mem_append.mp hz with w | w
        · exact q2 z w
        · rw [List.mem_singleton.mp w]; exact pd
    · walk_at "run"
      exact ⟨l, rfl, by omega, q2, a2.rt (a2.dr.mono (by omega)) a2.rm, k2⟩
end
end Mi
/-! Mi53: a drawn pattern. -/
namespace Mi
open PySem PySem.Spec PyProof.Rows L2
variable {X : Exc → Hh → Prop}
theorem use_pat {s : Str} {l : List D} {W P : Nat} (hs : Wd 40 s) (hl : l.length ≤ 2) (h : ∀ x ∈ l, Pat W P x) : Pat (2 * W + 50) (P + 2) (.tup [.str "use", .str s, .tup l]) := by
  have p1 : Pat (1 + 3) 0 (.str "use") := pat_str (k := 3) (Wd.of (by decide +kernel)) (by omega)
  have p2 : Pat (1 + 40) 0 (.str s) := pat_str hs (by omega)
  have p3 := row_pat h hl
  have q1 := p1.w
  have q2 := p2.w
  have q3 := p3.w
  have q4 := p3.p
  refine (pat_tup (W := 2 * W + 49) (P := P + 1) (fun x hx => ?_) (by simp only [wtL]; omega) (by simp only [dpL]; simp only [dp] at q4 ⊢; omega)).le
  simp only [List.mem_cons, List.not_mem_nil, or_false] at hx
  rcases hx with rfl | rfl | rfl
  · exact p1.g
  · exact p2.g
  · exact p3.g
theorem w_neNilL {l : List D} {h : Hh} {Q : R → Hh → Prop} (p : Q (.dat (.bl (!l.isEmpty))) h) : evX X (ofR h (cmpF h .ne (.dat (.lst l)) (.new [])) fun b => R.dat (.bl b)) Q := w_ofR (a := !l.isEmpty) rfl p
section
variable {T : Tab} {G : Str → Option D} {h : Hh} {m ci li rr : Nat} {b : Int} {ws : List Str} {kn : List D}
theorem leaf_ret (W : LPat T) {n k : Nat} {way : Int} {sm : List D} {s7 s8 s9 s10 : Slot} (a : Ask h m ci li rr b ws kn) (hb : b < 2 ^ 46) (w0 : 0 ≤ way) (l4 : sm.length = 4) (hsm : ∀ x ∈ sm, Pat 60 4 x) :
    evX X (execSs (run T G (n + 8)) G (.cons (.ret (.ix (.bin .add (.var 6) (.lst (.cons (.tup (.cons (.con (.str "is")) (.cons (.call "_law_row" (.cons (.var 0) (.cons (.con (.int 2)) .nil))) .nil))) .nil))) (.bin .mod (.var 5) (.con (.int 5))))) .nil) [.val (.ref m), .val (.lst (ws.map .str)), .val (.lst kn), .val (.int (k : Nat)), .val (.ref rr), .val (.int way), .val (.lst sm), s7, s8, s9, s10] h)
        fun fl g' => ∃ d, fl = .rt (.dat d) ∧ Pat 60 4 d ∧ Ask g' m ci li rr (b + 200) ws kn ∧ Kr m li rr h g' := by
  walk_at "run"
  refine ev_mono (drow_ok (n := n + 4) (most := 2) W.mixed W.draw W.leaf W.row a.dr (by omega) (by omega)) ?_
  rintro r g2 ⟨l, rfl, l2, hl, d2, e2⟩
  walk_at "run"
  refine w_addLs (b := [D.tup [.str "is", .tup l]]) rfl (by simp; omega) ?_
  walk_at "run"
  refine w_pickN (Int.emod_nonneg _ (by decide)) (by have := Int.emod_lt_of_pos way (b := 5) (by decide); simp [l4]; omega) fun v hv => ?_
  walk_at "run"
  refine ⟨v, rfl, ?_, a.kp d2 e2, e2.kr⟩
  rcases List.mem_append.mp hv with q | q
  · exact hsm v q
  · rw [List.mem_singleton.mp q]
    exact (is_pat ((row_pat (W := 27) (P := 2) (c := 2) (fun x hx => tiny_pat (hl x hx)) l2))).le
theorem pat_known (W' : LPat T) {n k W P : Nat} {c way : Int} {sm : List D} (ih : Drawn T G m ci li rr ws kn (n + 8) k W P c) (a : Ask h m ci li rr b ws kn) (c0 : 0 ≤ c) (w0 : 60 ≤ W) (p4 : 4 ≤ P) (hb : b + (4 * c + 12) < 2 ^ 45) (ne : kn ≠ []) :
    evX X (execSs (run T G (n + 8)) G (.cons (.asg 7 (.ix (.var 2) (.call "_law_draw" (.cons (.var 0) (.cons (.blt .len (.cons (.var 2) .nil)) .nil))))) (.cons (.ifs (.cmp .eq (.ix (.var 7) (.con (.int 0))) (.con (.str "hole"))) (.cons (.ret (.var 7)) .nil) .nil) (.cons (.asg 8 (.comp [10] (.nm 10) (.seq (.ix (.var 7) (.con (.int 2)))) (.con (.bl true)) (.call "_law_pattern" (.cons (.var 0) (.cons (.var 1) (.cons (.var 2) (.cons (.bin .sub (.var 3) (.con (.int 1))) (.cons (.var 4) .nil)))))))) (.cons (.ret (.bin .add (.sl (.var 7) .no (.part (.con (.int 2)))) (.tup (.cons (.blt .toTuple (.cons (.var 8) .nil)) .nil)))) .nil)))) [.val (.ref m), .val (.lst (ws.map .str)), .val (.lst kn), .val (.int ((k + 1 : Nat) : Int)), .val (.ref rr), .val (.int way), .val (.lst sm), .un, .un, .un, .un] h) (fun fl g' => ∃ d, fl = .rt (.dat d) ∧ Pat (4 * W + 100) (P + 3) d ∧ Ask g' m ci li rr (b + (4 * c + 12)) ws kn ∧ Kr m li rr h g') := by
  have k1 := a.k1
  have kp : 0 < kn.length := List.length_pos_iff.mpr ne
  walk_at "run"
  refine ev_mono (draw_ok (n := n + 6) W'.mixed W'.draw a.dr (by omega) (by omega) (by omega)) ?_
  rintro r h1 ⟨y, rfl, y0, y1, d1, e1⟩
  have a1 := a.kp d1 e1
  have k1 := e1.kr (rr := rr)
  refine w_pickL y0 y1 fun v hv => ?_
  rcases a.kn v hv with ⟨s, rfl, hs⟩ | ⟨s, l, rfl, hs, l2⟩
  · walk_at "run"
    refine ⟨_, rfl, (pair_pat (W := 41) (P := 0) (k := 4) (Wd.of (by decide +kernel)) (by omega) ((pat_str hs (by omega)).le)).le, a1.rt (a1.dr.mono (by omega)) a1.rm, k1⟩
  · walk_at "run"
    refine w_ofR (a := false) rfl ?_
    walk_at "run"
    refine ev_comp (fun i acc g => i ≤ l.length ∧ acc.length = i ∧ (∀ x ∈ acc, Pat W P x) ∧ Ask g m ci li rr (b + 1 + (i : Nat) * c) ws kn ∧ Kr m li rr h g) ⟨Nat.zero_le _, rfl, by simp, by simpa using a1, k1⟩ (by rw [sizeLine_eq]; simp only [List.length_nil]; omega) ?_ ?_
    · rintro i d acc g hd ⟨i0, q1, q2, q3, q4⟩
      have hi := (List.getElem?_eq_some_iff.mp hd).1
      have hm5 : ((i : Nat) : Int) * c + c = ((i + 1 : Nat) : Int) * c := by rw [show ((i + 1 : Nat) : Int) = (i : Nat) + 1 by omega, Int.add_mul, Int.one_mul]
      have hle : ((i + 1 : Nat) : Int) * c ≤ 2 * c := Int.mul_le_mul_of_nonneg_right (by omega) (by omega)
      refine ⟨_, rfl, ?_⟩
      walk_at "run"
      rw [show ((k + 1 : Nat) : Int) - 1 = (k : Nat) by omega]
      refine ev_mono (ih _ g _ q3 (by omega)) ?_
      rintro r g2 ⟨e, rfl, pe, a2, k2⟩
      walk_at "run"
      refine ⟨by omega, by simp [q1], fun x hx => ?_, ?_, q4.trans k2⟩
      · rcases List.mem_append.mp hx with z | z
        · exact q2 x z
        · rw [List.mem_singleton.mp z]; exact pe
      · rw [← hm5, ← Int.add_assoc]; exact a2
    · rintro acc g ⟨i0, q1, q2, q3, q4⟩
      have hle : ((l.length : Nat) : Int) * c ≤ 2 * c := Int.mul_le_mul_of_nonneg_right (by omega) (by omega)
      walk_at "run"
      rw [show cutD [D.str "use", D.str s, D.tup l] none (some 2) = [D.str "use", D.str s] from rfl]
      refine w_addT (le_big (by simp)) ?_
      walk_at "run"
      exact ⟨_, rfl, (use_pat hs (by omega) q2).le, q3.rt (q3.dr.mono (by omega)) q3.rm, q4⟩
theorem pat_rest (W' : LPat T) {n k W P : Nat} {c way : Int} {sm : List D} (ih : Drawn T G m ci li rr ws kn (n + 8) k W P c) (ih7 : Drawn T G m ci li rr ws kn (n + 7) k W P c) (a : Ask h m ci li rr b ws kn) (c0 : 0 ≤ c) (w0 : 0 ≤ way) (w1 : way < 16) (w5 : 5 ≤ way) (hb : b + (4 * c + 12) < 2 ^ 45) :
    evX X (execSs (run T G (n + 8)) G (.cons (.ifs (.cmp .lt (.var 5) (.con (.int 12))) (.cons (.asg 9 (.ite (.cmp .gt (.var 5) (.con (.int 6))) (.ix (.lst (.cons (.con (.str "row")) (.cons (.con (.str "row")) (.cons (.con (.str "row")) (.cons (.con (.str "lot")) (.cons (.con (.str "row")) .nil)))))) (.bin .sub (.var 5) (.con (.int 7)))) (.con (.str "lot")))) (.cons (.ret (.tup (.cons (.var 9) (.cons (.call "_law_item_parts" (.cons (.var 0) (.cons (.var 1) (.cons (.var 2) (.cons (.bin .sub (.var 3) (.con (.int 1))) (.cons (.var 4) (.cons (.var 9) .nil))))))) .nil)))) .nil)) .nil) (.cons (.ifs (.cmp .lt (.var 5) (.con (.int 14))) (.cons (.asg 10 (.call "_law_pattern" (.cons (.var 0) (.cons (.var 1) (.cons (.var 2) (.cons (.bin .sub (.var 3) (.con (.int 1))) (.cons (.var 4) .nil))))))) (.cons (.ret (.tup (.cons (.ix (.lst (.cons (.con (.str "both")) (.cons (.con (.str "either")) .nil))) (.bin .sub (.var 5) (.con (.int 12)))) (.cons (.var 10) (.cons (.call "_law_pattern" (.cons (.var 0) (.cons (.var 1) (.cons (.var 2) (.cons (.bin .sub (.var 3) (.con (.int 1))) (.cons (.var 4) .nil)))))) .nil))))) .nil)) .nil) (.cons (.asg 9 (.ix (.lst (.cons (.con (.str "not")) (.cons (.con (.str "first")) (.cons (.con (.str "turned")) (.cons (.con (.str "all")) .nil))))) (.call "_law_draw" (.cons (.var 0) (.cons (.con (.int 4)) .nil))))) (.cons (.ret (.tup (.cons (.var 9) (.cons (.call "_law_pattern" (.cons (.var 0) (.cons (.var 1) (.cons (.var 2) (.cons (.bin .sub (.var 3) (.con (.int 1))) (.cons (.var 4) .nil)))))) .nil)))) .nil)))) [.val (.ref m), .val (.lst (ws.map .str)), .val (.lst kn), .val (.int ((k + 1 : Nat) : Int)), .val (.ref rr), .val (.int way), .val (.lst sm), .un, .un, .un, .un] h) (fun fl g' => ∃ d, fl = .rt (.dat d) ∧ Pat (4 * W + 100) (P + 3) d ∧ Ask g' m ci li rr (b + (4 * c + 12)) ws kn ∧ Kr m li rr h g') := by
  have e1 : ((k + 1 : Nat) : Int) - 1 = (k : Nat) := by omega
  have p1 := fun (X : Exc → Hh → Prop) => ih X h b a (by omega)
  have its : ∀ (X : Exc → Hh → Prop) (s : Str), Wd 3 s → evX X (run T G (n + 8) "_law_item_parts" [.ref m, .lst (ws.map .str), .lst kn, .int (k : Nat), .ref rr, .str s] h)
      fun r g => ∃ d, r = .dat d ∧ Pat (4 * W + 100) (P + 3) (.tup [.str s, d]) ∧ Ask g m ci li rr (b + (4 * c + 12)) ws kn ∧ Kr m li rr h g := fun X s hs => by
    refine ev_mono (dparts_ok (n := n + 2) W' ih7 c0 a (by omega)) ?_
    rintro r g ⟨l, rfl, l4, hl, a2, k2⟩
    exact ⟨_, rfl, (pair_pat hs (by omega) (row_pat hl l4)).le, a2.rt (a2.dr.mono (by omega)) a2.rm, k2⟩
  walk_at "run"
  refine ev_br (fun h5 => ?_) (fun h5 => ?_)
  · have h5 := of_decide_eq_true h5
    walk_at "run"
    refine ev_br (fun h6 => ?_) (fun h6 => ?_)
    · have h6 := of_decide_eq_true h6
      walk_at "run"
      refine w_pickN (by omega) (by simp; omega) fun v hv => ?_
      obtain ⟨s, rfl, hs⟩ : ∃ w : Str, v = .str w ∧ Wd 3 w := by
        simp only [List.mem_cons, List.not_mem_nil, or_false] at hv
        rcases hv with rfl | rfl | rfl | rfl | rfl <;> exact ⟨_, rfl, Wd.of (by decide +kernel)⟩
      walk_at "run"
      rw [e1]
      refine ev_mono (its _ s hs) ?_
      rintro r g ⟨d, rfl, pd, a2, k2⟩
      walk_at "run"
      exact ⟨_, rfl, pd, a2, k2⟩
    · walk_at "run"
      rw [e1]
      refine ev_mono (its _ (Str.ofString "lot") (Wd.of (by decide +kernel))) ?_
      rintro r g ⟨d, rfl, pd, a2, k2⟩
      walk_at "run"
      exact ⟨_, rfl, pd, a2, k2⟩
  have h5 := of_decide_eq_false h5
  walk_at "run"
  refine ev_br (fun h6 => ?_) (fun h6 => ?_)
  · have h6 := of_decide_eq_true h6
    walk_at "run"
    rw [e1]
    refine ev_mono (p1 _) ?_
    rintro r g ⟨d, rfl, pd, a2, k2⟩
    walk_at "run"
    refine w_pickN (by omega) (by simp; omega) fun v hv => ?_
    obtain ⟨s, rfl, hs⟩ : ∃ w : Str, v = .str w ∧ Wd 6 w := by
      simp only [List.mem_cons, List.not_mem_nil, or_false] at hv
      rcases hv with rfl | rfl <;> exact ⟨_, rfl, Wd.of (by decide +kernel)⟩
    walk_at "run"
    rw [e1]
    refine ev_mono (ih _ g _ a2 (by omega)) ?_
    rintro r g2 ⟨d2, rfl, pd2, a3, k3⟩
    walk_at "run"
    exact ⟨_, rfl, (both_pat hs (by omega) pd pd2).le, a3.rt (a3.dr.mono (by omega)) a3.rm, k2.trans k3⟩
  walk_at "run"
  refine ev_mono (draw_ok (n := n + 6) W'.mixed W'.draw a.dr (by omega) (by decide) (by decide)) ?_
  rintro r g ⟨y, rfl, y0, y1, d1, e2⟩
  refine w_pickN y0 (by simpa using y1) fun v hv => ?_
  obtain ⟨s, rfl, hs⟩ : ∃ w : Str, v = .str w ∧ Wd 6 w := by
    simp only [List.mem_cons, List.not_mem_nil, or_false] at hv
    rcases hv with rfl | rfl | rfl | rfl <;> exact ⟨_, rfl, Wd.of (by decide +kernel)⟩
  walk_at "run"
  rw [e1]
  refine ev_mono (ih _ g _ (a.kp d1 e2) (by omega)) ?_
  rintro r g2 ⟨d2, rfl, pd2, a3, k3⟩
  walk_at "run"
  exact ⟨_, rfl, (pair_pat hs (by omega) pd2).le, a3.rt (a3.dr.mono (by omega)) a3.rm, e2.kr.trans k3⟩
theorem drawn_ok (W : LPat T) : ∀ (k N : Nat), 2 * k + 9 ≤ N → Drawn T G m ci li rr ws kn N (k + 1) (wb k) (3 * k + 4) (nb k) := by
  intro k
  induction k with
  | zero =>
    intro N hN X h b a hb
    obtain ⟨n, rfl⟩ : ∃ n, N = n + 9 := ⟨N - 9, by omega⟩
    have hb : b + 320 < 2 ^ 45 := hb
    refine v_run W.pattern rfl ?_
    unfold fn__law_pattern
    simp only [Fn.env, List.map_cons, List.map_nil, Nat.reduceSub, List.replicate_succ, List.replicate_zero, List.cons_append, List.nil_append]
    refine pat_head W a (by omega) fun way y sm g w0 w1 l4 hsm hr d0 k0 => ?_
    have a0 := a.rt d0 ⟨y, hr⟩
    have leafc := fun s7 s8 s9 s10 => leaf_ret (X := X) (G := G) (k := 1) (n := n) W (s7 := s7) (s8 := s8) (s9 := s9) (s10 := s10) a0 (by omega) w0 l4 hsm
    repeat first | with_reducible refine ev_mono (leafc _ _ _ _) ?_ | walk_at "one"
    rintro fl g2 ⟨d, rfl, p, a2, k2⟩
    exact ⟨d, rfl, p, a2.rt (a2.dr.mono (by show _ ≤ b + 320; omega)) a2.rm, k0.trans k2⟩
  | succ k ih =>
    intro N hN X h b a hb
    obtain ⟨n, rfl⟩ : ∃ n, N = n + 9 := ⟨N - 9, by omega⟩
    have nk := nb_ge k
    have hb : b + (4 * nb k + 340) < 2 ^ 45 := hb
    have wk := wb_ge k
    have ew : wb (k + 1) = 4 * (wb k + 20) + 20 := rfl
    have en : nb (k + 1) = 4 * nb k + 340 := rfl
    refine v_run W.pattern rfl ?_
    unfold fn__law_pattern
    simp only [Fn.env, List.map_cons, List.map_nil, Nat.reduceSub, List.replicate_succ, List.replicate_zero, List.cons_append, List.nil_append]
    refine pat_head W a (by omega) fun way y sm g w0 w1 l4 hsm hr d0 k0 => ?_
    have a0 := a.rt d0 ⟨y, hr⟩
    have leafc := fun s7 s8 s9 s10 => leaf_ret (X := X) (G := G) (k := k + 1 + 1) (n := n) W (s7 := s7) (s8 := s8) (s9 := s9) (s10 := s10) a0 (by omega) w0 l4 hsm
    walk_at "run"
    have out : ∀ (fl : Fl) (g' : Hh), (∃ d, fl = .rt (.dat d) ∧ Pat 60 4 d ∧ Ask g' m ci li rr (b + 6 + 200) ws kn ∧ Kr m li rr g g') → ∀ f, contFX X (endQ fun r g' => ∃ d, r = .dat d ∧ Pat (wb (k + 1)) (3 * (k + 1) + 4) d ∧ Ask g' m ci li rr (b + nb (k + 1)) ws kn ∧ Kr m li rr h g') f fl g' := fun fl g' z f => by
      obtain ⟨d, rfl, p, a2, k2⟩ := z
      exact ⟨d, rfl, p.le, a2.rt (a2.dr.mono (by omega)) a2.rm, k0.trans k2⟩
    refine w_ixL hr rfl ?_
    walk_at "run"
    refine ev_br (fun h6 => ?_) (fun h6 => ?_)
    · repeat first | with_reducible refine ev_mono (leafc _ _ _ _) (fun fl h' z => out fl h' z _) | walk_at "one"
    walk_at "run"
    refine ev_br (fun h7 => ?_) (fun h7 => ?_)
    · repeat first | with_reducible refine ev_mono (leafc _ _ _ _) (fun fl h' z => out fl h' z _) | walk_at "one"
    clear leafc out
    have h7 := of_decide_eq_false h7
    have rest := fun (X : Exc → Hh → Prop) => pat_rest (X := X) (G := G) (n := n) (way := way) (sm := sm) W (ih _ (by omega)) (ih _ (by omega)) a0 (by omega) w0 w1 (by omega) (by omega)
    have out : ∀ (fl : Fl) (g' : Hh), (∃ d, fl = .rt (.dat d) ∧ Pat (4 * wb k + 100) (3 * k + 4 + 3) d ∧ Ask g' m ci li rr (b + 6 + (4 * nb k + 12)) ws kn ∧ Kr m li rr g g') → ∀ f, contFX X (endQ fun r g' => ∃ d, r = .dat d ∧ Pat (wb (k + 1)) (3 * (k + 1) + 4) d ∧ Ask g' m ci li rr (b + nb (k + 1)) ws kn ∧ Kr m li rr h g') f fl g' := fun fl g' z f => by
      obtain ⟨d, rfl, p, a2, k2⟩ := z
      exact ⟨d, rfl, p.le, a2.rt (a2.dr.mono (by omega)) a2.rm, k0.trans k2⟩
    have out2 : ∀ (fl : Fl) (g' : Hh), (∃ d, fl = .rt (.dat d) ∧ Pat (4 * wb k + 100) (3 * k + 4 + 3) d ∧ Ask g' m ci li rr (b + 6 + (4 * nb k + 12)) ws kn ∧ Kr m li rr g g') → endQ (fun r g' => ∃ d, r = .dat d ∧ Pat (wb (k + 1)) (3 * (k + 1) + 4) d ∧ Ask g' m ci li rr (b + nb (k + 1)) ws kn ∧ Kr m li rr h g') fl g' := fun fl g' z => by
      obtain ⟨d, rfl, p, a2, k2⟩ := z
      exact ⟨d, rfl, p.le, a2.rt (a2.dr.mono (by omega)) a2.rm, k0.trans k2⟩
    walk_at "run"
    refine ev_br (fun h8 => ?_) (fun h8 => ?_)
    · walk_at "run"
      refine w_neNilL ?_
      walk_at "run"
      refine ev_br (fun h9 => ?_) (fun h9 => ?_)
      · have ne : kn ≠ [] := by intro e; rw [e] at h9; exact absurd h9 (by decide)
        have kc := pat_known (X := X) (G := G) (n := n) (way := way) (sm := sm) W (ih _ (by omega)) a0 (by omega) (by omega) (by omega) (by omega) ne
        repeat first | with_reducible refine ev_mono kc (fun fl h' z => out fl h' z _) | walk_at "one"
      · repeat first | with_reducible refine ev_mono (rest _) (fun fl h' z => out2 fl h' z) | walk_at "one"
    · repeat first | with_reducible refine ev_mono (rest _) (fun fl h' z => out2 fl h' z) | walk_at "one"
end
end Mi
/-! Mi54: what is known to patterns. -/
namespace Mi
open PySem PySem.Spec PyProof.Rows L2
variable {X : Exc → Hh → Prop}
def fn__law_known : Fn := ⟨1, 2, (.cons (.asg 1 (.tup (.cons (.con (.str "any")) .nil))) (.cons (.ret (.lst (.cons (.tup (.cons (.con (.str "use")) (.cons (.ix (.var 0) (.con (.int 0))) (.cons (.tup (.cons (.var 1) .nil)) .nil)))) (.cons (.tup (.cons (.con (.str "hole")) (.cons (.ix (.var 0) (.con (.int 1))) .nil))) (.cons (.tup (.cons (.con (.str "use")) (.cons (.ix (.var 0) (.con (.int 2))) (.cons (.tup .nil) .nil)))) (.cons (.tup (.cons (.con (.str "use")) (.cons (.ix (.var 0) (.con (.int 3))) (.cons (.tup (.cons (.var 1) (.cons (.var 1) .nil))) .nil)))) (.cons (.tup (.cons (.con (.str "hole")) (.cons (.ix (.var 0) (.con (.int 4))) .nil))) .nil))))))) .nil))⟩
theorem known_ok {T : Tab} {G : Str → Option D} {n : Nat} {h : Hh} {ws : List Str} (hK : T "_law_known" = some fn__law_known) (h5 : ws.length = 5) (hw : ∀ w ∈ ws, Wd 40 w) :
    evX X (run T G (n + 1) "_law_known" [.lst (ws.map .str)] h) fun r g => g = h ∧ ∃ kn, r = .new kn ∧ kn.length = 5 ∧ ∀ x ∈ kn, Kn x := by
  obtain ⟨a, b, c, d, e, rfl⟩ : ∃ a b c d e, ws = [a, b, c, d, e] := by
    match ws, h5 with
    | [a, b, c, d, e], _ => exact ⟨a, b, c, d, e, rfl⟩
  refine v_run hK rfl ?_
  unfold fn__law_known
  simp only [Fn.env, List.map_cons, List.map_nil, Nat.reduceSub, List.replicate_succ, List.replicate_zero, List.cons_append, List.nil_append]
  walk_at "run"
  refine ⟨rfl, _, rfl, rfl, fun x hx => ?_⟩
  simp only [List.mem_cons, List.not_mem_nil, or_false] at hx hw
  rcases hx with rfl | rfl | rfl | rfl | rfl
  · exact .inr ⟨_, _, rfl, hw _ (by simp), by simp⟩
  · exact .inl ⟨_, rfl, hw _ (by simp)⟩
  · exact .inr ⟨_, _, rfl, hw _ (by simp), by simp⟩
  · exact .inr ⟨_, _, rfl, hw _ (by simp), by simp⟩
  · exact .inl ⟨_, rfl, hw _ (by simp)⟩
end Mi
/-! Mi55: patterns wrapped. -/
namespace Mi
open PySem PySem.Spec PyProof.Rows L2
variable {X : Exc → Hh → Prop}
def fn__law_wrapped : Fn := ⟨3, 5, (.cons (.for' (.nm 3) (.rng1 (.var 2)) (.cons (.asg 4 (.lst (.cons (.tup (.cons (.con (.str "not")) (.cons (.var 1) .nil))) (.cons (.tup (.cons (.con (.str "first")) (.cons (.var 1) .nil))) (.cons (.tup (.cons (.con (.str "turned")) (.cons (.var 1) .nil))) (.cons (.tup (.cons (.con (.str "all")) (.cons (.var 1) .nil))) .nil)))))) (.cons (.asg 4 (.bin .add (.var 4) (.lst (.cons (.tup (.cons (.con (.str "both")) (.cons (.var 1) (.cons (.tup (.cons (.con (.str "any")) .nil)) .nil)))) (.cons (.tup (.cons (.con (.str "either")) (.cons (.tup (.cons (.con (.str "is")) (.cons (.tup .nil) .nil))) (.cons (.var 1) .nil)))) (.cons (.tup (.cons (.con (.str "row")) (.cons (.tup (.cons (.tup (.cons (.con (.str "one")) (.cons (.var 1) .nil))) .nil)) .nil))) .nil)))))) (.cons (.asg 4 (.bin .add (.var 4) (.lst (.cons (.tup (.cons (.con (.str "row")) (.cons (.tup (.cons (.tup (.cons (.con (.str "stretch")) (.cons (.var 1) .nil))) .nil)) .nil))) (.cons (.tup (.cons (.con (.str "lot")) (.cons (.tup (.cons (.tup (.cons (.con (.str "one")) (.cons (.var 1) .nil))) .nil)) .nil))) (.cons (.tup (.cons (.con (.str "lot")) (.cons (.tup (.cons (.tup (.cons (.con (.str "rest")) (.cons (.var 1) .nil))) .nil)) .nil))) .nil)))))) (.cons (.asg 1 (.ix (.bin .add (.var 4) (.lst (.cons (.tup (.cons (.con (.str "use")) (.cons (.con (.str "x")) (.cons (.tup (.cons (.tup (.cons (.con (.str "any")) .nil)) (.cons (.var 1) .nil))) .nil)))) .nil))) (.call "_law_draw" (.cons (.var 0) (.cons (.con (.int 11)) .nil))))) .nil))))) (.cons (.ret (.var 1)) .nil))⟩
def anyD : D := .tup [.str "any"]
def wraps (p : D) : List D := [.tup [.str "not", p], .tup [.str "first", p], .tup [.str "turned", p], .tup [.str "all", p], .tup [.str "both", p, anyD], .tup [.str "either", .tup [.str "is", .tup []], p], .tup [.str "row", .tup [.tup [.str "one", p]]],
  .tup [.str "row", .tup [.tup [.str "stretch", p]]], .tup [.str "lot", .tup [.tup [.str "one", p]]], .tup [.str "lot", .tup [.tup [.str "rest", p]]], .tup [.str "use", .str "x", .tup [anyD, p]]]
theorem partsW_s {k : Nat} {d : D} (f : formD d = true) : partsW (k + 1) d = addP (partsW k) (withinD d) 1 := by
  simp only [partsW, f, if_true]
theorem any_1 {k : Nat} : partsW (k + 1) anyD = 1 := by
  rw [partsW_s rfl]; rfl
theorem is_1 {k : Nat} : partsW (k + 1) (.tup [.str "is", .tup []]) = 1 := by
  rw [partsW_s rfl]; rfl
/-- what one wrapping does to the measure -/
def Wr1 (p w : D) : Prop := (∀ h : Hh, Gd h p → Gd h w) ∧ ∀ k, (partsW k p = 0 → partsW (k + 1) w = 0) ∧ (0 < partsW k p → partsW k p ≤ 38 → 0 < partsW (k + 1) w ∧ partsW (k + 1) w ≤ partsW k p + 2)
theorem wr_one {p w : D} (g : ∀ h : Hh, Gd h p → Gd h w) (f : formD w = true) (e : withinD w = [p]) : Wr1 p w := by
  refine ⟨g, fun k => ?_⟩
  rw [partsW_s f, e]
  constructor
  · intro z; simp only [addP, z, true_or, if_true]
  · intro z z2
    have : ¬(partsW k p = 0 ∨ 1 + partsW k p > 40) := by omega
    simp only [addP, if_neg this]; omega
theorem wr_two {p w x : D} (x1 : ∀ k, partsW (k + 1) x = 1) (g : ∀ h : Hh, Gd h p → Gd h w) (f : formD w = true) (e : withinD w = [p, x] ∨ withinD w = [x, p]) : Wr1 p w := by
  refine ⟨g, fun k => ?_⟩
  rw [partsW_s f]
  cases k with
  | zero =>
    have z : ∀ d, partsW 0 d = 0 := fun _ => rfl
    rcases e with e | e <;> rw [e] <;> simp [addP, z]
  | succ k =>
    have y := x1 k
    constructor
    · intro z
      rcases e with e | e <;> rw [e] <;> simp [addP, z, y]
    · intro z z2
      have h1 : ¬(partsW (k + 1) p = 0 ∨ 1 + partsW (k + 1) p > 40) := by omega
      have h2 : ¬((1 : Nat) = 0 ∨ 1 + partsW (k + 1) p + 1 > 40) := by omega
      have h3 : ¬((1 : Nat) = 0 ∨ 1 + 1 > 40) := by omega
      have h4 : ¬(partsW (k + 1) p = 0 ∨ 1 + 1 + partsW (k + 1) p > 40) := by omega
      rcases e with e | e <;> rw [e]
      · simp only [addP, y, if_neg h1, if_neg h2]; omega
      · simp only [addP, y, if_neg h3, if_neg h4]; omega
theorem wraps_ok {p : D} : ∀ w ∈ wraps p, Wr1 p w := by
  intro w hw
  simp only [wraps, List.mem_cons, List.not_mem_nil, or_false] at hw
  have gs : ∀ {h : Hh} {s : Str}, wdB 1000 s = true → Gd h (.str s) := fun e => by simp only [Gd]; exact Wd.of e
  have g1 : ∀ {h : Hh} {s : Str}, wdB 1000 s = true → Gd h p → Gd h (.tup [.str s, p]) := fun e gp => by
    simp only [Gd, GdL]; exact ⟨Wd.of e, gp, True.intro⟩
  have ga : ∀ {h : Hh}, Gd h anyD := gdB_ok (k := 3) (by decide +kernel)
  have gi : ∀ {h : Hh}, Gd h (.tup [.str "is", .tup []]) := gdB_ok (k := 3) (by decide +kernel)
  rcases hw with rfl | rfl | rfl | rfl | rfl | rfl | rfl | rfl | rfl | rfl | rfl
  · exact wr_one (fun h gp => g1 (by decide +kernel) gp) rfl rfl
  · exact wr_one (fun h gp => g1 (by decide +kernel) gp) rfl rfl
  · exact wr_one (fun h gp => g1 (by decide +kernel) gp) rfl rfl
  · exact wr_one (fun h gp => g1 (by decide +kernel) gp) rfl rfl
  · exact wr_two (fun _ => any_1) (fun h gp => by simp only [Gd, GdL]; exact ⟨Wd.of (by decide +kernel), gp, by simpa only [Gd, GdL] using ga (h := h), True.intro⟩) rfl (.inl rfl)
  · exact wr_two (fun _ => is_1) (fun h gp => gd_tup.mpr fun x hx => by
      simp only [List.mem_cons, List.not_mem_nil, or_false] at hx
      rcases hx with rfl | rfl | rfl
      · exact gs (by decide +kernel)
      · exact gi
      · exact gp) rfl (.inr rfl)
  · exact wr_one (fun h gp => by simp only [Gd, GdL]; exact ⟨Wd.of (by decide +kernel), ⟨⟨Wd.of (by decide +kernel), gp, True.intro⟩, True.intro⟩, True.intro⟩) rfl rfl
  · exact wr_one (fun h gp => by simp only [Gd, GdL]; exact ⟨Wd.of (by decide +kernel), ⟨⟨Wd.of (by decide +kernel), gp, True.intro⟩, True.intro⟩, True.intro⟩) rfl rfl
  · exact wr_one (fun h gp => by simp only [Gd, GdL]; exact ⟨Wd.of (by decide +kernel), ⟨⟨Wd.of (by decide +kernel), gp, True.intro⟩, True.intro⟩, True.intro⟩) rfl rfl
  · exact wr_one (fun h gp => by simp only [Gd, GdL]; exact ⟨Wd.of (by decide +kernel), ⟨⟨Wd.of (by decide +kernel), gp, True.intro⟩, True.intro⟩, True.intro⟩) rfl rfl
  · exact wr_two (fun _ => any_1) (fun h gp => gd_tup.mpr fun x hx => by
      simp only [List.mem_cons, List.not_mem_nil, or_false] at hx
      rcases hx with rfl | rfl | rfl
      · exact gs (by decide +kernel)
      · exact gs (by decide +kernel)
      · exact gd_tup.mpr fun x hx => by
          simp only [List.mem_cons, List.not_mem_nil, or_false] at hx
          rcases hx with rfl | rfl
          · exact ga
          · exact gp) rfl (.inr rfl)
/-- so many wrappings -/
structure Wrn (j : Nat) (p w : D) : Prop where
  g : ∀ h : Hh, Gd h p → Gd h w
  z : ∀ k, partsW k p = 0 → partsW (k + j) w = 0
  s : ∀ k, 0 < partsW k p → partsW k p + 2 * j ≤ 40 → 0 < partsW (k + j) w ∧ partsW (k + j) w ≤ partsW k p + 2 * j
theorem Wrn.one {j : Nat} {p w v : D} (a : Wrn j p w) (b : Wr1 w v) : Wrn (j + 1) p v := by
  refine ⟨fun h g => b.1 h (a.g h g), fun k z => (b.2 (k + j)).1 (a.z k z), fun k z y => ?_⟩
  obtain ⟨q1, q2⟩ := a.s k z (by omega)
  obtain ⟨q3, q4⟩ := (b.2 (k + j)).2 q1 (by omega)
  exact ⟨q3, by show partsW (k + j + 1) v ≤ _; omega⟩
theorem Wrn.zero {p : D} : Wrn 0 p p := ⟨fun _ g => g, fun _ z => z, fun _ z _ => ⟨z, Nat.le_refl _⟩⟩
end Mi
/-! Mi56: patterns wrapped, walked. -/
namespace Mi
open PySem PySem.Spec PyProof.Rows L2
variable {X : Exc → Hh → Prop}
theorem wrapped_ok {T : Tab} {G : Str → Option D} {n : Nat} {h : Hh} {m ci li : Nat} {b : Int} {p : D} (hM : T "_law_mixed" = some f_mixed) (hD : T "_law_draw" = some f_draw) (hW : T "_law_wrapped" = some fn__law_wrapped) (dr : Dr h m ci li b) (hb : b < 2 ^ 45) {many : Nat} (hm : many ≤ 20) :
    evX X (run T G (n + 8) "_law_wrapped" [.ref m, p, .int (many : Nat)] h) fun r g => ∃ d, r = .dat d ∧ Wrn many p d ∧ Dr g m ci li (b + 20) ∧ Kp m li h g := by
  refine v_run hW rfl ?_
  unfold fn__law_wrapped
  simp only [Fn.env, List.map_cons, List.map_nil, Nat.reduceSub, List.replicate_succ, List.replicate_zero, List.cons_append, List.nil_append]
  walk_at "run"
  refine ev_for (fun i env g => i ≤ many ∧ ∃ d s3 s4, env = [.val (.ref m), .val d, .val (.int (many : Nat)), s3, s4] ∧ Wrn i p d ∧ Dr g m ci li (b + (i : Nat)) ∧ Kp m li h g)
    ⟨Nat.zero_le _, p, _, _, rfl, Wrn.zero, by simpa using dr, Kp.refl⟩ ?_ ?_
  · rintro i d e g hdd ⟨hi0, q, s3, s4, rfl, q1, q2, q3⟩
    obtain ⟨hi, rfl⟩ := rngL_get hdd
    refine ⟨_, rfl, ?_⟩
    walk_at "run"
    refine w_addLs (b := [.tup [.str "both", q, anyD], .tup [.str "either", .tup [.str "is", .tup []], q], .tup [.str "row", .tup [.tup [.str "one", q]]]]) rfl (by simp) ?_
    walk_at "run"
    refine w_addLs (b := [.tup [.str "row", .tup [.tup [.str "stretch", q]]], .tup [.str "lot", .tup [.tup [.str "one", q]]], .tup [.str "lot", .tup [.tup [.str "rest", q]]]]) rfl (by simp) ?_
    walk_at "run"
    refine w_addLs (b := [.tup [.str "use", .str "x", .tup [anyD, q]]]) rfl (by simp) ?_
    walk_at "run"
    refine ev_mono (draw_ok (n := n + 5) hM hD q2 (by omega) (by decide) (by decide)) ?_
    rintro r g2 ⟨y, rfl, y0, y1, d2, e2⟩
    refine w_pickN y0 (by simpa using y1) fun v hv => ?_
    have wv := wraps_ok (p := q) v hv
    walk_at "run"
    exact ⟨by omega, v, _, _, rfl, q1.one wv, d2.mono (by omega), q3.trans e2⟩
  · rintro e g ⟨hi0, q, s3, s4, rfl, q1, q2, q3⟩
    walk_at "run"
    rw [rngL_length] at q1 q2
    rw [show (many : Int).toNat = many by omega] at q1 q2
    exact ⟨q, rfl, q1, q2.mono (by omega), q3⟩
end Mi
/-! Mi57: worths and names at their bounds. -/
namespace Mi
open PySem PySem.Spec PyProof.Rows L2
variable {X : Exc → Hh → Prop}
def fn__law_worths : Fn := ⟨0, 6, (.cons (.asgs [0, 1] (.tup (.cons (.con (.int 1)) (.cons (.tup .nil) .nil)))) (.cons (.for' (.nm 2) (.rng1 (.con (.int 5))) (.cons (.asgs [0, 1] (.tup (.cons (.tup (.cons (.var 0) .nil)) (.cons (.tup (.cons (.var 1) .nil)) .nil)))) .nil)) (.cons (.asg 3 (.bin .mul (.tup (.cons (.con (.int 1)) .nil)) (.con (.int 10)))) (.cons (.asg 4 (.bin .add (.bin .mul (.tup (.cons (.var 3) .nil)) (.con (.int 5))) (.bin .mul (.tup (.cons (.con (.int 0)) .nil)) (.con (.int 4))))) (.cons (.asg 5 (.lst (.cons (.tup (.cons (.con (.int 0)) (.cons (.con (.bl true)) .nil))) (.cons (.tup (.cons (.con (.int 99)) (.cons (.con (.bl true)) .nil))) (.cons (.tup (.cons (.con (.int 100)) (.cons (.con (.bl false)) .nil))) (.cons (.tup (.cons (.neg (.con (.int 1))) (.cons (.con (.bl false)) .nil))) (.cons (.tup (.cons (.var 0) (.cons (.con (.bl true)) .nil))) (.cons (.tup (.cons (.tup (.cons (.var 0) .nil)) (.cons (.con (.bl false)) .nil))) (.cons (.tup (.cons (.var 1) (.cons (.con (.bl true)) .nil))) .nil))))))))) (.cons (.asg 5 (.bin .add (.var 5) (.lst (.cons (.tup (.cons (.tup (.cons (.var 1) .nil)) (.cons (.con (.bl false)) .nil))) (.cons (.tup (.cons (.var 3) (.cons (.con (.bl true)) .nil))) (.cons (.tup (.cons (.bin .add (.var 3) (.tup (.cons (.con (.int 1)) .nil))) (.cons (.con (.bl false)) .nil))) (.cons (.tup (.cons (.var 4) (.cons (.con (.bl true)) .nil))) (.cons (.tup (.cons (.bin .add (.var 4) (.tup (.cons (.con (.int 0)) .nil))) (.cons (.con (.bl false)) .nil))) .nil)))))))) (.cons (.ret (.bin .add (.var 5) (.lst (.cons (.tup (.cons (.con (.str "1")) (.cons (.con (.bl false)) .nil))) (.cons (.tup (.cons (.con .non) (.cons (.con (.bl false)) .nil))) (.cons (.tup (.cons (.lst (.cons (.con (.int 1)) .nil)) (.cons (.con (.bl false)) .nil))) (.cons (.tup (.cons (.tup (.cons (.lst .nil) .nil)) (.cons (.con (.bl false)) .nil))) (.cons (.tup (.cons (.con (.bl true)) (.cons (.con (.bl false)) .nil))) (.cons (.tup (.cons (.tup (.cons (.con (.int 0)) (.cons (.con (.bl false)) .nil))) (.cons (.con (.bl false)) .nil))) .nil))))))))) .nil)))))))⟩
def fn__law_names : Fn := ⟨0, 3, (.cons (.asg 0 (.lst (.cons (.tup (.cons (.con (.str "abcdef")) (.cons (.con (.bl true)) .nil))) (.cons (.tup (.cons (.con (.str "abcdefg")) (.cons (.con (.bl false)) .nil))) (.cons (.tup (.cons (.con (.str "")) (.cons (.con (.bl false)) .nil))) (.cons (.tup (.cons (.con (.str "aB")) (.cons (.con (.bl false)) .nil))) (.cons (.tup (.cons (.con (.str "a1")) (.cons (.con (.bl false)) .nil))) (.cons (.tup (.cons (.con (.str "a b")) (.cons (.con (.bl false)) .nil))) .nil)))))))) (.cons (.asg 0 (.bin .add (.var 0) (.lst (.cons (.tup (.cons (.con (.str "rows")) (.cons (.con (.bl true)) .nil))) (.cons (.tup (.cons (.con (.str "lots")) (.cons (.con (.bl true)) .nil))) (.cons (.tup (.cons (.con (.str "none")) (.cons (.con (.bl true)) .nil))) (.cons (.tup (.cons (.con (.str "leaf")) (.cons (.con (.bl true)) .nil))) (.cons (.tup (.cons (.con .non) (.cons (.con (.bl false)) .nil))) (.cons (.tup (.cons (.tup (.cons (.con (.str "x")) .nil)) (.cons (.con (.bl false)) .nil))) .nil))))))))) (.cons (.asg 1 (.con (.str "any is name both either not first row lot turned all use hole one stretch rest rule end"))) (.cons (.ret (.bin .add (.bin .add (.var 0) (.lst (.cons (.tup (.cons (.con (.int 5)) (.cons (.con (.bl false)) .nil))) (.cons (.tup (.cons (.lst (.cons (.con (.str "x")) .nil)) (.cons (.con (.bl false)) .nil))) .nil)))) (.comp [2] (.nm 2) (.seq (.mth .split (.var 1) (.cons (.con (.str " ")) .nil))) (.con (.bl true)) (.tup (.cons (.var 2) (.cons (.con (.bl false)) .nil)))))) .nil))))⟩
/-- pairs of a thing and what is told of it -/
def toldB (f : D → Bool) : D → Bool
  | .tup [w, .bl g] => gdB 20 w && (f w == g)
  | _ => false
def v0D : D := .tup [.tup [.tup [.tup [.tup [.int 1]]]]]
def v1D : D := .tup [.tup [.tup [.tup [.tup [.tup []]]]]]
def v3L : List D := List.replicate 10 (.int 1)
def v4L : List D := List.replicate 5 (.tup v3L) ++ List.replicate 4 (.int 0)
def wbl : List D := [.tup [.int 0, .bl true], .tup [.int 99, .bl true], .tup [.int 100, .bl false], .tup [.int (-1), .bl false], .tup [v0D, .bl true], .tup [.tup [v0D], .bl false], .tup [v1D, .bl true],
  .tup [.tup [v1D], .bl false], .tup [.tup v3L, .bl true], .tup [.tup (v3L ++ [.int 1]), .bl false], .tup [.tup v4L, .bl true], .tup [.tup (v4L ++ [.int 0]), .bl false],
  .tup [.str "1", .bl false], .tup [.non, .bl false], .tup [.lst [.int 1], .bl false], .tup [.tup [.lst []], .bl false], .tup [.bl true, .bl false], .tup [.tup [.int 0, .bl false], .bl false]]
theorem lworths_ok {T : Tab} {G : Str → Option D} {n : Nat} {h : Hh} (hW : T "_law_worths" = some fn__law_worths) : run T G (n + 2) "_law_worths" [] h = .ok (.new wbl) h := by
  rw [run_s hW _ _ rfl]
  kernel_rfl
def nbl : List D := [.tup [.str "abcdef", .bl true], .tup [.str "abcdefg", .bl false], .tup [.str "", .bl false], .tup [.str "aB", .bl false], .tup [.str "a1", .bl false], .tup [.str "a b", .bl false], .tup [.str "rows", .bl true], .tup [.str "lots", .bl true], .tup [.str "none", .bl true], .tup [.str "leaf", .bl true], .tup [.non, .bl false], .tup [.tup [.str "x"], .bl false], .tup [.int 5, .bl false], .tup [.lst [.str "x"], .bl false], .tup [.str "any", .bl false], .tup [.str "is", .bl false], .tup [.str "name", .bl false], .tup [.str "both", .bl false], .tup [.str "either", .bl false], .tup [.str "not", .bl false], .tup [.str "first", .bl false], .tup [.str "row", .bl false], .tup [.str "lot", .bl false], .tup [.str "turned", .bl false], .tup [.str "all", .bl false], .tup [.str "use", .bl false], .tup [.str "hole", .bl false], .tup [.str "one", .bl false], .tup [.str "stretch", .bl false], .tup [.str "rest", .bl false], .tup [.str "rule", .bl false], .tup [.str "end", .bl false]]
theorem lnames_ok {T : Tab} {G : Str → Option D} {n : Nat} {h : Hh} (hW : T "_law_names" = some fn__law_names) : run T G (n + 2) "_law_names" [] h = .ok (.new nbl) h := by
  rw [run_s hW _ _ rfl]
  kernel_rfl
end Mi
/-! Mi58: patterns at their bounds. -/
namespace Mi
open PySem PySem.Spec PyProof.Rows L2
variable {X : Exc → Hh → Prop}
def fn__law_bounds : Fn := ⟨1, 13, (.cons (.asgs [1, 2] (.tup (.cons (.tup (.cons (.con (.str "any")) .nil)) (.cons (.call "_law_draw" (.cons (.var 0) (.cons (.con (.int 3)) .nil))) .nil)))) (.cons (.asgs [3, 4] (.tup (.cons (.bin .mul (.tup (.cons (.tup (.cons (.con (.str "one")) (.cons (.var 1) .nil))) .nil)) (.con (.int 6))) (.cons (.bin .mul (.tup (.cons (.tup (.cons (.con (.str "one")) (.cons (.var 1) .nil))) .nil)) (.con (.int 4))) .nil)))) (.cons (.asg 5 (.tup (.cons (.con (.str "not")) (.cons (.tup (.cons (.con (.str "all")) (.cons (.tup (.cons (.con (.str "first")) (.cons (.tup (.cons (.con (.str "row")) (.cons (.bin .add (.bin .mul (.tup (.cons (.tup (.cons (.con (.str "one")) (.cons (.tup (.cons (.con (.str "row")) (.cons (.var 3) .nil))) .nil))) .nil)) (.con (.int 5))) (.tup (.cons (.tup (.cons (.con (.str "stretch")) (.cons (.var 1) .nil))) .nil))) .nil))) .nil))) .nil))) .nil)))) (.cons (.own 6 (.lst (.cons (.tup (.cons (.call "_law_wrapped" (.cons (.var 0) (.cons (.var 1) (.cons (.con (.int 9)) .nil)))) (.cons (.con (.bl true)) .nil))) (.cons (.tup (.cons (.call "_law_wrapped" (.cons (.var 0) (.cons (.var 1) (.cons (.con (.int 10)) .nil)))) (.cons (.con (.bl false)) .nil))) (.cons (.tup (.cons (.var 5) (.cons (.con (.bl true)) .nil))) .nil))))) (.cons (.own 6 (.bin .add (.var 6) (.lst (.cons (.tup (.cons (.tup (.cons (.con (.str "turned")) (.cons (.var 5) .nil))) (.cons (.con (.bl false)) .nil))) (.cons (.tup (.cons (.tup (.cons (.con (.str "row")) (.cons (.bin .add (.var 3) (.tup (.cons (.tup (.cons (.con (.str "stretch")) (.cons (.var 1) .nil))) .nil))) .nil))) (.cons (.con (.bl false)) .nil))) (.cons (.tup (.cons (.tup (.cons (.con (.str "lot")) (.cons (.var 4) .nil))) (.cons (.con (.bl true)) .nil))) .nil)))))) (.cons (.own 6 (.bin .add (.var 6) (.lst (.cons (.tup (.cons (.tup (.cons (.con (.str "lot")) (.cons (.bin .add (.var 4) (.tup (.cons (.tup (.cons (.con (.str "rest")) (.cons (.var 1) .nil))) .nil))) .nil))) (.cons (.con (.bl false)) .nil))) (.cons (.tup (.cons (.tup (.cons (.con (.str "lot")) (.cons (.bin .add (.sl (.var 4) .no (.part (.con (.int 3)))) (.tup (.cons (.tup (.cons (.con (.str "rest")) (.cons (.var 1) .nil))) .nil))) .nil))) (.cons (.con (.bl true)) .nil))) .nil))))) (.cons (.own 6 (.bin .add (.var 6) (.lst (.cons (.tup (.cons (.tup (.cons (.con (.str "lot")) (.cons (.bin .add (.tup (.cons (.tup (.cons (.con (.str "rest")) (.cons (.var 1) .nil))) .nil)) (.sl (.var 4) .no (.part (.con (.int 1))))) .nil))) (.cons (.con (.bl false)) .nil))) (.cons (.tup (.cons (.tup (.cons (.con (.str "row")) (.cons (.tup (.cons (.tup (.cons (.con (.str "rest")) (.cons (.var 1) .nil))) .nil)) .nil))) (.cons (.con (.bl false)) .nil))) .nil))))) (.cons (.own 6 (.bin .add (.var 6) (.lst (.cons (.tup (.cons (.tup (.cons (.con (.str "lot")) (.cons (.tup (.cons (.tup (.cons (.con (.str "stretch")) (.cons (.var 1) .nil))) .nil)) .nil))) (.cons (.con (.bl false)) .nil))) (.cons (.tup (.cons (.tup (.cons (.con (.str "use")) (.cons (.con (.str "x")) (.cons (.tup (.cons (.var 1) (.cons (.var 1) .nil))) .nil)))) (.cons (.con (.bl true)) .nil))) (.cons (.tup (.cons (.tup (.cons (.con (.str "row")) (.cons (.tup .nil) .nil))) (.cons (.con (.bl true)) .nil))) .nil)))))) (.cons (.own 6 (.bin .add (.var 6) (.lst (.cons (.tup (.cons (.tup (.cons (.con (.str "use")) (.cons (.con (.str "x")) (.cons (.bin .mul (.tup (.cons (.var 1) .nil)) (.con (.int 3))) .nil)))) (.cons (.con (.bl false)) .nil))) (.cons (.tup (.cons (.tup (.cons (.con (.str "use")) (.cons (.con (.str "x")) (.cons (.tup .nil) .nil)))) (.cons (.con (.bl true)) .nil))) (.cons (.tup (.cons (.tup (.cons (.con (.str "lot")) (.cons (.tup .nil) .nil))) (.cons (.con (.bl true)) .nil))) .nil)))))) (.cons (.own 6 (.bin .add (.var 6) (.lst (.cons (.tup (.cons (.tup (.cons (.con (.str "row")) (.cons (.var 3) .nil))) (.cons (.con (.bl true)) .nil))) (.cons (.tup (.cons (.tup .nil) (.cons (.con (.bl false)) .nil))) .nil))))) (.cons (.for' (.tp [7, 8]) (.seq (.call "_law_worths" .nil)) (.cons (.asg 9 (.tup (.cons (.con (.str "row")) (.cons (.bin .add (.bin .mul (.tup (.cons (.tup (.cons (.con (.str "one")) (.cons (.tup (.cons (.con (.str "row")) (.cons (.var 3) .nil))) .nil))) .nil)) (.con (.int 5))) (.tup (.cons (.tup (.cons (.con (.str "stretch")) (.cons (.tup (.cons (.con (.str "is")) (.cons (.var 7) .nil))) .nil))) .nil))) .nil)))) (.cons (.asg 10 (.lst (.cons (.tup (.cons (.con (.str "is")) (.cons (.var 7) .nil))) (.cons (.call "_law_wrapped" (.cons (.var 0) (.cons (.tup (.cons (.con (.str "is")) (.cons (.var 7) .nil))) (.cons (.con (.int 9)) .nil)))) (.cons (.tup (.cons (.con (.str "not")) (.cons (.tup (.cons (.con (.str "all")) (.cons (.tup (.cons (.con (.str "first")) (.cons (.var 9) .nil))) .nil))) .nil))) .nil))))) (.cons (.own 6 (.bin .add (.var 6) (.comp [12] (.nm 12) (.seq (.var 10)) (.con (.bl true)) (.tup (.cons (.var 12) (.cons (.var 8) .nil)))))) .nil)))) (.cons (.for' (.tp [11, 8]) (.seq (.call "_law_names" .nil)) (.cons (.app 6 (.tup (.cons (.ix (.lst (.cons (.tup (.cons (.con (.str "name")) (.cons (.var 11) .nil))) (.cons (.tup (.cons (.con (.str "hole")) (.cons (.var 11) .nil))) (.cons (.tup (.cons (.con (.str "use")) (.cons (.var 11) (.cons (.tup .nil) .nil)))) .nil)))) (.var 2)) (.cons (.var 8) .nil)))) .nil)) (.cons (.retV 6) .nil)))))))))))))⟩
/-- a pattern and what is told of it -/
def Bo (x : D) : Prop := ∃ d b, x = .tup [d, .bl b] ∧ (∀ h : Hh, Gd h d) ∧ patD d = b
theorem toldB_bo {x : D} (e : toldB patD x = true) : Bo x := by
  unfold toldB at e
  split at e
  · simp only [Bool.and_eq_true, beq_iff_eq] at e
    exact ⟨_, _, rfl, fun h => gdB_ok e.1, e.2⟩
  · cases e
theorem bo_all {l : List D} (e : l.all (toldB patD) = true) : ∀ x ∈ l, Bo x := fun x hx => toldB_bo (List.all_eq_true.mp e x hx)
theorem bo_app {a b : List D} (ha : ∀ x ∈ a, Bo x) (hb : ∀ x ∈ b, Bo x) : ∀ x ∈ a ++ b, Bo x := fun x hx => (List.mem_append.mp hx).elim (ha x) (hb x)
theorem any_p {k : Nat} : partsW (k + 1) anyD = 1 := any_1
theorem bo_9 {d : D} (w : Wrn 9 anyD d) : Bo (.tup [d, .bl true]) := by
  refine ⟨d, true, rfl, fun h => w.g h (gdB_ok (k := 3) (by decide +kernel)), ?_⟩
  have := w.s 1 (by rw [any_p]; omega) (by rw [any_p]; omega)
  unfold patD
  exact decide_eq_true this.1
theorem bo_10 {d : D} (w : Wrn 10 anyD d) : Bo (.tup [d, .bl false]) := by
  refine ⟨d, false, rfl, fun h => w.g h (gdB_ok (k := 3) (by decide +kernel)), ?_⟩
  have : partsW (0 + 10) d = 0 := w.z 0 rfl
  unfold patD
  exact decide_eq_false (by rw [show (10 : Nat) = 0 + 10 from rfl, this]; omega)
/-- what is made of one worth -/
def deepD (w : D) : D := .tup [.str "not", .tup [.str "all", .tup [.str "first", .tup [.str "row", .tup (List.replicate 5 (.tup [.str "one", .tup [.str "row", .tup (List.replicate 6 (.tup [.str "one", anyD]))]]) ++ [.tup [.str "stretch", .tup [.str "is", w]]])]]]]
def isB : D → Bool
  | .tup [w, .bl g] => gdB 20 (.tup [.str "is", w]) && ((partsW 1 (.tup [.str "is", w]) == if g then 1 else 0) && (toldB patD (.tup [.tup [.str "is", w], .bl g]) && toldB patD (.tup [deepD w, .bl g])))
  | _ => false
theorem isB_t {d : D} (e : isB d = true) : ∃ w g, d = .tup [w, .bl g] := by
  unfold isB at e
  split at e
  · exact ⟨_, _, rfl⟩
  · cases e
theorem wbl_is : wbl.all isB = true := by decide +kernel
theorem bo_is {v d : D} {g : Bool} (e : isB (.tup [v, .bl g]) = true) (w : Wrn 9 (.tup [.str "is", v]) d) : Bo (.tup [d, .bl g]) := by
  simp only [isB, Bool.and_eq_true, beq_iff_eq] at e
  refine ⟨d, g, rfl, fun h => w.g h (gdB_ok e.1), ?_⟩
  have e2 := e.2.1
  unfold patD
  cases g with
  | true =>
    have := w.s 1 (by rw [e2]; simp) (by rw [e2]; simp)
    exact decide_eq_true this.1
  | false =>
    have : partsW (1 + 9) d = 0 := w.z 1 (by rw [e2]; simp)
    exact decide_eq_false (by rw [show (10 : Nat) = 1 + 9 from rfl, this]; omega)
theorem w_addBo {a b : List D} {h : Hh} {Q : R → Hh → Prop} (ha : ∀ x ∈ a, Bo x) (hb : ∀ x ∈ b, Bo x) (z : a.length + b.length ≤ 1000000) (p : ∀ c : List D, (∀ x ∈ c, Bo x) → c.length = a.length + b.length → Q (.new c) h) : evX X (Res.of h (binF h .add (.bor a) (.new b))) Q := by
  refine w_of ?_ (p _ (bo_app ha hb) (by rw [List.length_append]))
  show (if a.length + b.length ≤ sizeLine then some (R.new (a ++ b)) else none) = _
  rw [if_pos (by rw [sizeLine_eq]; omega)]
def isNm : D → Bool
  | .tup [v, .bl g] => toldB patD (.tup [.tup [.str "name", v], .bl g]) && (toldB patD (.tup [.tup [.str "hole", v], .bl g]) && toldB patD (.tup [.tup [.str "use", v, .tup []], .bl g]))
  | _ => false
theorem isNm_t {d : D} (e : isNm d = true) : ∃ w g, d = .tup [w, .bl g] := by
  unfold isNm at e
  split at e
  · exact ⟨_, _, rfl⟩
  · cases e
theorem nbl_is : nbl.all isNm = true := by decide +kernel
def oneD : D := .tup [.str "one", anyD]
def restD : D := .tup [.str "rest", anyD]
def o6 : List D := List.replicate 6 oneD
def o4 : List D := List.replicate 4 oneD
def rowB : List D := List.replicate 5 (.tup [.str "one", .tup [.str "row", .tup o6]]) ++ [.tup [.str "stretch", anyD]]
theorem bounds_ok {T : Tab} {G : Str → Option D} {n : Nat} {h : Hh} {m ci li : Nat} {b : Int} (hM : T "_law_mixed" = some f_mixed) (hD : T "_law_draw" = some f_draw) (hW : T "_law_wrapped" = some fn__law_wrapped) (hV : T "_law_worths" = some fn__law_worths) (hN : T "_law_names" = some fn__law_names) (hB : T "_law_bounds" = some fn__law_bounds) (dr : Dr h m ci li b) (hb : b < 2 ^ 44) :
    evX X (run T G (n + 9) "_law_bounds" [.ref m] h) fun r g => ∃ l, r = .new l ∧ l.length ≤ 200 ∧ (∀ x ∈ l, Bo x) ∧ Dr g m ci li (b + 1000) ∧ Kp m li h g := by
  refine v_run hB rfl ?_
  unfold fn__law_bounds
  simp only [Fn.env, List.map_cons, List.map_nil, Nat.reduceSub, List.replicate_succ, List.replicate_zero, List.cons_append, List.nil_append]
  walk_at "run"
  refine ev_mono (draw_ok (n := n + 6) hM hD dr (by omega) (by decide) (by decide)) ?_
  rintro r h1 ⟨way, rfl, w0, w1, d1, e1⟩
  walk_at "run"
  refine w_of (a := .dat (.tup o6)) (by kernel_rfl) ?_
  walk_at "run"
  refine w_of (a := .dat (.tup o4)) (by kernel_rfl) ?_
  walk_at "run"
  refine w_of (a := .dat (.tup (List.replicate 5 (.tup [.str "one", .tup [.str "row", .tup o6]])))) (by kernel_rfl) ?_
  walk_at "run"
  refine w_of (a := .dat (.tup rowB)) (by kernel_rfl) ?_
  walk_at "run"
  refine ev_mono (wrapped_ok (n := n) (p := anyD) (many := 9) hM hD hW d1 (by omega) (by omega)) ?_
  rintro r h2 ⟨p9, rfl, w9, d2, e2⟩
  walk_at "run"
  refine ev_mono (wrapped_ok (n := n) (p := anyD) (many := 10) hM hD hW d2 (by omega) (by omega)) ?_
  rintro r h3 ⟨p10, rfl, w10, d3, e3⟩
  walk_at "run"
  refine w_of (a := .dat (.tup (o6 ++ [.tup [.str "stretch", anyD]]))) (by kernel_rfl) ?_
  walk_at "run"
  refine w_addBo (fun x hx => ?_) (bo_all (by decide +kernel)) (by simp) fun c1 b1 l1 => ?_
  · simp only [List.mem_cons, List.not_mem_nil, or_false] at hx
    rcases hx with rfl | rfl | rfl
    · exact bo_9 w9
    · exact bo_10 w10
    · exact toldB_bo (by decide +kernel)
  simp only [List.length_cons, List.length_nil] at l1
  walk_at "run"
  refine w_of (a := .dat (.tup (o4 ++ [restD]))) (by kernel_rfl) ?_
  walk_at "run"
  refine w_of (a := .dat (.tup (o4.take 3 ++ [restD]))) (by kernel_rfl) ?_
  walk_at "run"
  refine w_addBo b1 (bo_all (by decide +kernel)) (by simp; omega) fun c2 b2 l2 => ?_
  simp only [List.length_cons, List.length_nil] at l2
  walk_at "run"
  refine w_of (a := .dat (.tup ([restD] ++ o4.take 1))) (by kernel_rfl) ?_
  walk_at "run"
  refine w_addBo b2 (bo_all (by decide +kernel)) (by simp; omega) fun c3 b3 l3 => ?_
  simp only [List.length_cons, List.length_nil] at l3
  walk_at "run"
  refine w_addBo b3 (bo_all (by decide +kernel)) (by simp; omega) fun c4 b4 l4 => ?_
  simp only [List.length_cons, List.length_nil] at l4
  walk_at "run"
  refine w_of (a := .dat (.tup [anyD, anyD, anyD])) (by kernel_rfl) ?_
  walk_at "run"
  refine w_addBo b4 (bo_all (by decide +kernel)) (by simp; omega) fun c5 b5 l5 => ?_
  simp only [List.length_cons, List.length_nil] at l5
  walk_at "run"
  refine w_addBo b5 (bo_all (by decide +kernel)) (by simp; omega) fun c6 b6 l6 => ?_
  simp only [List.length_cons, List.length_nil] at l6
  walk_at "run"
  refine ev_of (lworths_ok (n := n + 6) hV) ?_
  walk_at "run"
  refine ev_for (fun i env g => ∃ c s5 s7 s8 s9 s10 s11 s12, env = [.val (.ref m), .val anyD, .val (.int way), .val (.tup o6), .val (.tup o4), s5, .own c, s7, s8, s9, s10, s11, s12] ∧ c.length = 18 + 3 * i ∧ (∀ x ∈ c, Bo x) ∧ Dr g m ci li (b + 41 + 20 * (i : Nat)) ∧ Kp m li h g)
    ⟨c6, _, _, _, _, _, _, _, rfl, by omega, b6, by simpa using d3.mono (by omega), (e1.trans e2).trans e3⟩ ?_ ?_
  · rintro i d e g hdd ⟨c, s5, s7, s8, s9, s10, s11, s12, rfl, q1, q2, q3, q4⟩
    have hi : i < wbl.length := (List.getElem?_eq_some_iff.mp hdd).1
    have h18 : wbl.length = 18 := rfl
    have hd : isB d = true := List.all_eq_true.mp wbl_is d (List.mem_of_getElem? hdd)
    obtain ⟨v, good, rfl⟩ := isB_t hd
    have hd2 := hd
    simp only [isB, Bool.and_eq_true] at hd2
    refine ⟨_, rfl, ?_⟩
    walk_at "run"
    refine w_of (a := .dat (.tup (List.replicate 5 (.tup [.str "one", .tup [.str "row", .tup o6]])))) (by kernel_rfl) ?_
    walk_at "run"
    refine w_of (a := .dat (.tup (List.replicate 5 (.tup [.str "one", .tup [.str "row", .tup o6]]) ++ [.tup [.str "stretch", .tup [.str "is", v]]]))) (by kernel_rfl) ?_
    walk_at "run"
    refine ev_mono (wrapped_ok (n := n) (p := .tup [.str "is", v]) (many := 9) hM hD hW q3 (by omega) (by omega)) ?_
    rintro r g2 ⟨p9, rfl, w9, d9, e9⟩
    walk_at "run"
    refine ev_comp (fun i acc g => g = g2 ∧ acc.length = i ∧ ∀ x ∈ acc, ∃ y ∈ [D.tup [.str "is", v], p9, deepD v], x = .tup [y, .bl good]) ⟨rfl, rfl, by simp⟩ (by rw [sizeLine_eq]; simp) ?_ ?_
    · rintro i z acc g hz ⟨rfl, a1, a2⟩
      have hz := List.mem_of_getElem? hz
      refine ⟨_, rfl, ?_⟩
      walk_at "run"
      refine ⟨rfl, by simp [a1], fun x hx => ?_⟩
      rcases List.mem_append.mp hx with w | w
      · exact a2 x w
      · exact ⟨z, hz, List.mem_singleton.mp w⟩
    rintro acc g ⟨rfl, a1, a2⟩
    have ba : ∀ x ∈ acc, Bo x := fun x hx => by
      obtain ⟨y, hy, rfl⟩ := a2 x hx
      simp only [List.mem_cons, List.not_mem_nil, or_false] at hy
      rcases hy with rfl | rfl | rfl
      · exact toldB_bo hd2.2.2.1
      · exact bo_is hd w9
      · exact toldB_bo hd2.2.2.2
    simp only [List.length_cons, List.length_nil] at a1
    refine w_addBo q2 ba (by omega) fun c7 b7 l7 => ?_
    walk_at "run"
    exact ⟨c7, _, _, _, _, _, _, _, rfl, by omega, b7, d9.mono (by omega), q4.trans e9⟩
  · rintro e g ⟨c, s5, s7, s8, s9, s10, s11, s12, rfl, q1, q2, q3, q4⟩
    have h18 : wbl.length = 18 := rfl
    rw [h18] at q1 q3
    walk_at "run"
    refine ev_of (lnames_ok (n := n + 6) hN) ?_
    walk_at "run"
    refine ev_for (fun i env g' => g' = g ∧ ∃ c s8 s11, env = [.val (.ref m), .val anyD, .val (.int way), .val (.tup o6), .val (.tup o4), s5, .own c, s7, s8, s9, s10, s11, s12] ∧ c.length = 72 + i ∧ (∀ x ∈ c, Bo x))
      ⟨rfl, c, _, _, rfl, by omega, q2⟩ ?_ ?_
    · rintro i d e g hdd ⟨rfl, c, s8, s11, rfl, q1, q2⟩
      have hi : i < nbl.length := (List.getElem?_eq_some_iff.mp hdd).1
      have h32 : nbl.length = 32 := rfl
      have hd : isNm d = true := List.all_eq_true.mp nbl_is d (List.mem_of_getElem? hdd)
      obtain ⟨v, good, rfl⟩ := isNm_t hd
      simp only [isNm, Bool.and_eq_true] at hd
      refine ⟨_, rfl, ?_⟩
      walk_at "run"
      refine w_pickN w0 (by simpa using w1) fun y hy => ?_
      have by_ : Bo (.tup [y, .bl good]) := by
        simp only [List.mem_cons, List.not_mem_nil, or_false] at hy
        rcases hy with rfl | rfl | rfl
        · exact toldB_bo hd.1
        · exact toldB_bo hd.2.1
        · exact toldB_bo hd.2.2
      walk_at "run"
      refine v_appR (by rw [sizeLine_eq, q1]; omega) ?_
      walk_at "run"
      exact ⟨rfl, _, _, _, rfl, by simp; omega, bo_app q2 (fun x hx => by rw [List.mem_singleton.mp hx]; exact by_)⟩
    · rintro e g' ⟨rfl, c, s8, s11, rfl, q1, q2⟩
      have h32 : nbl.length = 32 := rfl
      walk_at "run"
      exact ⟨c, rfl, by omega, q2, q3.mono (by omega), q4⟩
end Mi
/-! P20: law k20. -/
namespace Mi
open PySem PySem.Spec PyProof.Rows L2
variable {X : Exc → Hh → Prop}
def farP : Nat → D
  | 0 => anyD
  | k + 1 => .tup [.str "not", farP k]
theorem farP_lo {h : Hh} : ∀ k, Lo h (farP k)
  | 0 => Gd.lo (gdB_ok (k := 3) (by decide +kernel))
  | k + 1 => Lo.tup fun x hx => by
    simp only [List.mem_cons, List.not_mem_nil, or_false] at hx
    rcases hx with rfl | rfl
    · exact Gd.lo (gdB_ok (k := 3) (by decide +kernel))
    · exact farP_lo k
def farR (d : D) : D := .tup [.str "row", .tup [.tup [.str "one", d]]]
theorem farR_lo {h : Hh} {d : D} (o : Lo h d) : Lo h (farR d) := Lo.tup fun x hx => by
  simp only [List.mem_cons, List.not_mem_nil, or_false] at hx
  rcases hx with rfl | rfl
  · exact Gd.lo (gdB_ok (k := 3) (by decide +kernel))
  · refine Lo.tup fun x hx => ?_
    rw [List.mem_singleton.mp hx]
    refine Lo.tup fun x hx => ?_
    simp only [List.mem_cons, List.not_mem_nil, or_false] at hx
    rcases hx with rfl | rfl
    · exact Gd.lo (gdB_ok (k := 3) (by decide +kernel))
    · exact o
theorem w_isnB {a b : Bool} {h : Hh} {Q : R → Hh → Prop} (p : Q (.dat (.bl (!decide (a = b)))) h) : evX X (ofR h (cmpF h .isnot (.dat (.bl a)) (.dat (.bl b))) fun b => R.dat (.bl b)) Q := w_ofR (a := !decide (a = b)) rfl p
theorem w_lenSc {ns : List Int} {h : Hh} {Q : R → Hh → Prop} (p : Q (.dat (.int (ns.length : Nat))) h) : evX X (Res.of h (bltF h .len [scriptD ns])) Q := by
  refine w_of (a := .dat (.int ((ns.map D.int).length : Nat))) rfl ?_
  rw [List.length_map]; exact p
theorem Bo.g {x : D} (o : Bo x) : ∃ d b, x = .tup [d, .bl b] ∧ (∀ h : Hh, Gd h d) ∧ patD d = b := o
theorem nb5 : nb 5 = 443620 := by decide +kernel
theorem wb5 : wb 5 = 95540 := by decide +kernel
theorem nb_mono {j k : Nat} (e : j ≤ k) : nb j ≤ nb k := by
  induction e with
  | refl => exact Int.le_refl _
  | step _ ih => rename_i m _; have := nb_ge m; simp only [nb]; omega
theorem wb_mono {j k : Nat} (e : j ≤ k) : wb j ≤ wb k := by
  induction e with
  | refl => exact Nat.le_refl _
  | step _ ih => simp only [wb]; omega
def lawB (N : Int) : Ss := (.cons (.asg 1 (.call "_law_begun" (.cons (.var 0) .nil))) (.cons (.ifs (.cmp .ne (.comp [7, 9] (.tp [7, 9]) (.seq (.call "_law_bounds" (.cons (.var 1) .nil))) (.cmp .ne (.blt .repr (.cons (.call "is_pattern" (.cons (.var 7) .nil)) .nil)) (.blt .repr (.cons (.var 9) .nil))) (.var 7)) (.lst .nil)) (.cons (.ret (.con (.bl false))) .nil) .nil) (.cons (.asg 2 (.tup (.cons (.con (.str "any")) .nil))) (.cons (.for' (.nm 3) (.rng1 (.con (.int N))) (.cons (.asg 2 (.tup (.cons (.con (.str "not")) (.cons (.var 2) .nil)))) .nil)) (.cons (.ifs (.or2 (.cmp .isnot (.call "is_pattern" (.cons (.var 2) .nil)) (.con (.bl false))) (.cmp .isnot (.call "is_pattern" (.cons (.tup (.cons (.con (.str "row")) (.cons (.tup (.cons (.tup (.cons (.con (.str "one")) (.cons (.var 2) .nil))) .nil)) .nil))) .nil)) (.con (.bl false)))) (.cons (.ret (.con (.bl false))) .nil) .nil) (.cons (.for' (.nm 3) (.rng1 (.bin .add (.con (.int 6)) (.blt .min2 (.cons (.con (.int 10)) (.cons (.bin .fdiv (.blt .len (.cons (.var 0) .nil)) (.con (.int 2))) .nil))))) (.cons (.asg 4 (.call "_law_words" (.cons (.var 1) (.cons (.con (.int 5)) .nil)))) (.cons (.asg 5 (.call "_law_pattern" (.cons (.var 1) (.cons (.var 4) (.cons (.call "_law_known" (.cons (.var 4) .nil)) (.cons (.bin .add (.con (.int 2)) (.call "_law_draw" (.cons (.var 1) (.cons (.con (.int 5)) .nil)))) (.cons (.promo (.lst (.cons (.bin .add (.con (.int 8)) (.call "_law_draw" (.cons (.var 1) (.cons (.con (.int 20)) .nil)))) .nil))) .nil))))))) (.cons (.asg 6 (.call "_law_spoilt" (.cons (.var 1) (.cons (.var 5) .nil)))) (.cons (.for' (.nm 7) (.seq (.tup (.cons (.var 5) (.cons (.call "_law_truths" (.cons (.var 5) .nil)) (.cons (.var 6) (.cons (.call "_law_spoilt" (.cons (.var 1) (.cons (.var 6) .nil))) (.cons (.var 5) .nil))))))) (.cons (.asg 8 (.blt .repr (.cons (.var 7) .nil))) (.cons (.ifs (.or2 (.cmp .ne (.blt .repr (.cons (.call "is_pattern" (.cons (.var 7) .nil)) .nil)) (.blt .repr (.cons (.cmp .lt (.call "_law_parts" (.cons (.var 7) (.cons (.con (.int 10)) .nil))) (.con (.int 41))) .nil))) (.cmp .ne (.blt .repr (.cons (.var 7) .nil)) (.var 8))) (.cons (.ret (.con (.bl false))) .nil) .nil) .nil))) .nil))))) (.cons (.ret (.con (.bl true))) .nil)))))))
structure L20 (T : Tab) (G : Str → Option D) (xw xp : Str) : Prop where
  wp : WP T G xw xp
  lp : LP T G
  pat : LPat T
  sp : LSp T
  folded : T "_law_folded" = some f_folded
  begun : T "_law_begun" = some f_begun
  words : T "_law_words" = some f_words
  known : T "_law_known" = some fn__law_known
  wrapped : T "_law_wrapped" = some fn__law_wrapped
  worths : T "_law_worths" = some fn__law_worths
  names : T "_law_names" = some fn__law_names
  bounds : T "_law_bounds" = some fn__law_bounds
  truths : T "_law_truths" = some fn__law_truths
section
variable {T : Tab} {G : Str → Option D} {xw xp : Str}
theorem law_g (W : L20 T G xw xp) {N : Int} (hN : N = 3000) (tL : T "law" = some ⟨1, 10, lawB N⟩) {ns : List Int} (hn : ns.length ≤ 63) : ev (run T G 70 "law" [scriptD ns] []) fun r _ => r = .dat (.bl true) := by
  refine v_run tL rfl ?_
  unfold lawB
  simp only [Fn.env, List.map_cons, List.map_nil, Nat.reduceSub, List.replicate_succ, List.replicate_zero, List.cons_append, List.nil_append]
  generalize hS : scriptD ns = sc
  walk_at "run"
  subst hS
  refine ev_mono (begun_ok (n := 67) W.folded W.begun hn) ?_
  rintro r h1 ⟨rfl, hl, d0⟩
  walk_at "run"
  refine ev_mono (bounds_ok (n := 60) W.pat.mixed W.pat.draw W.wrapped W.worths W.names W.bounds d0 (by decide)) ?_
  rintro r h2 ⟨bl, rfl, b200, hbl, d1, e1⟩
  walk_at "run"
  refine ev_comp (fun i acc g => g = h2 ∧ acc = []) ⟨rfl, rfl⟩ (by rw [sizeLine_eq]; simp; omega) ?_ ?_
  · rintro i x acc g hx ⟨rfl, rfl⟩
    obtain ⟨d, b, rfl, gd, hb⟩ := hbl x (List.mem_of_getElem? hx)
    refine ⟨_, rfl, ?_⟩
    walk_at "run"
    refine ev_of (pattern_ok (n := 44) W.wp (gd g).lo) ?_
    rw [hb]
    walk_at "run"
    refine w_reprD Rok.bl ?_
    walk_at "run"
    refine w_reprD Rok.bl ?_
    walk_at "run"
    refine w_neSt ?_
    rw [decide_eq_true rfl, show (!true) = false from rfl]
    walk_at "run"
    exact ⟨rfl, rfl⟩
  rintro acc g ⟨rfl, rfl⟩
  walk_at "run"
  with_reducible refine w_neNil (k := 0) (w := 0) (fun x (hx : x ∈ ([] : List D)) => absurd hx (List.not_mem_nil)) (by omega) ?_
  rw [show (!([] : List D).isEmpty) = false from rfl]
  walk_at "run"
  refine ev_for (fun i e g' => g' = g ∧ ∃ s3, e = [.val (scriptD ns), .val (.ref 2), .val (farP i), s3, .un, .un, .un, .un, .un, .un]) ⟨rfl, _, rfl⟩ ?_ ?_
  · rintro i d e g' hd ⟨rfl, s3, rfl⟩
    refine ⟨_, rfl, ?_⟩
    simp only [setV, List.set_cons_succ, List.set_cons_zero]
    walk_at "run"
    exact ⟨rfl, _, rfl⟩
  rintro e g' ⟨rfl, s3, rfl⟩
  rw [rngL_length]
  have p1 : patD (farP N.toNat) = false := by subst hN; decide +kernel
  have p2 : patD (farR (farP N.toNat)) = false := by subst hN; decide +kernel
  have lo1 : Lo g' (farP N.toNat) := farP_lo _
  generalize farP N.toNat = far at p1 p2 lo1 ⊢
  walk_at "run"
  refine ev_of (pattern_ok (n := 44) W.wp lo1) ?_
  rw [p1]
  walk_at "run"
  refine w_isnB ?_
  rw [decide_eq_true rfl, show (!true) = false from rfl]
  walk_at "run"
  have p2' : run T G 69 "is_pattern" [.tup [.str "row", .tup [.tup [.str "one", far]]]] g' = .ok (.dat (.bl (patD (farR far)))) g' := pattern_ok (n := 44) W.wp (farR_lo lo1)
  refine ev_of p2' ?_
  rw [p2]
  walk_at "run"
  refine w_isnB ?_
  rw [decide_eq_true rfl, show (!true) = false from rfl]
  clear p2' p1 p2 lo1
  walk_at "run"
  refine w_lenSc ?_
  walk_at "run"
  generalize scriptD ns = sc
  refine ev_for (fun i e g => i ≤ 16 ∧ Dr g 2 0 3 (1000 + 500000 * (i : Nat)) ∧ ∃ s3 s4 s5 s6 s7 s8, e = [.val sc, .val (.ref 2), .val far, s3, s4, s5, s6, s7, s8, .un]) ⟨by omega, by simpa using d1, _, _, _, _, _, _, rfl⟩ ?_ ?_
  · rintro i x e g hx ⟨hi0, d1, s3, s4, s5, s6, s7, s8, rfl⟩
    obtain ⟨hi, rfl⟩ := rngL_get hx
    refine ⟨_, rfl, ?_⟩
    simp only [setV, List.set_cons_succ, List.set_cons_zero]
    walk_at "run"
    refine ev_mono (words_ok (n := 66) W.pat.mixed W.pat.draw W.words d1 (by omega) (by decide) (by decide)) ?_
    rintro r g1 ⟨ws, rfl, w5, hw, d2, e2⟩
    walk_at "run"
    refine ev_mono (known_ok (n := 68) (ws := ws) W.known w5 hw) ?_
    rintro r g1b ⟨rfl, kn, rfl, k5, hkn⟩
    walk_at "run"
    refine ev_mono (draw_ok (n := 67) W.pat.mixed W.pat.draw d2 (by omega) (by decide) (by decide)) ?_
    rintro r g2 ⟨y, rfl, y0, y1, d3, e3⟩
    walk_at "run"
    refine ev_mono (draw_ok (n := 67) W.pat.mixed W.pat.draw d3 (by omega) (by decide) (by decide)) ?_
    rintro r g3 ⟨z, rfl, z0, z1, d4, e4⟩
    walk_at "run"
    have eg : (g3 ++ [O.lst [.int (8 + z)]])[g3.length]? = some (.lst [.int (8 + z)]) := by simp
    have d5 := d4.more [O.lst [.int (8 + z)]]
    have hlt := d4.lt
    generalize hr : g3.length = rr at eg hlt ⊢
    generalize g3 ++ [O.lst [.int (8 + z)]] = g4 at eg d5 ⊢
    have ask : Ask g4 2 0 3 rr (1000 + 500000 * (i : Nat) + 7) ws kn := ⟨d5.mono (by omega), ⟨_, eg⟩, by omega, by omega, by omega, by rw [w5]; decide, by rw [w5]; decide, hw, by omega, hkn⟩
    obtain ⟨k, hk, ek⟩ : ∃ k : Nat, k ≤ 5 ∧ 2 + y = ((k + 1 : Nat) : Int) := ⟨(y + 1).toNat, by omega, by omega⟩
    rw [ek]
    have nk := nb_mono hk
    rw [nb5] at nk
    have wk := wb_mono hk
    rw [wb5] at wk
    refine ev_mono (drawn_ok (m := 2) (ci := 0) (li := 3) (rr := rr) (ws := ws) (kn := kn) W.pat k 69 (by omega) _ g4 _ ask (by omega)) ?_
    rintro r g5 ⟨d, rfl, pd, ask5, kr5⟩
    have d6 := ask5.dr
    have gd := pd.g
    have wd := pd.w
    have dd := pd.p
    clear ask ask5 kr5 d5 d4 d3 d2 e2 e3 e4 eg hlt hr ek hkn k5 hw w5 pd
    walk_at "run"
    refine ev_mono (spoilt_ok2 (n := 9) W.sp d6 (by omega) (gd g5) (by omega) (by omega)) ?_
    rintro r g6 ⟨u, rfl, gu, wu, pu, d7, e7⟩
    walk_at "run"
    refine ev_of (truths_ok (h := g6) W.truths 19 49 d (by omega) (gd g6) (by omega)) ?_
    obtain ⟨gt, wt_, pt⟩ := tr_gd (gd g6)
    walk_at "run"
    refine ev_mono (spoilt_ok2 (n := 9) W.sp d7 (by omega) gu (by omega) (by omega)) ?_
    rintro r g7 ⟨v, rfl, gv, wv, pv, d8, e8⟩
    have ke := Ke.of e8 d7
    have all : ∀ x ∈ [d, trD d, u, v, d], Gd g7 x ∧ wt x ≤ 800000 ∧ dp x ≤ 60 := fun x hx => by
      simp only [List.mem_cons, List.not_mem_nil, or_false] at hx
      rcases hx with rfl | rfl | rfl | rfl | rfl
      · exact ⟨gd g7, by omega, by omega⟩
      · exact ⟨gt.on ke, by omega, by omega⟩
      · exact ⟨gu.on ke, by omega, by omega⟩
      · exact ⟨gv, by omega, by omega⟩
      · exact ⟨gd g7, by omega, by omega⟩
    generalize trD d = td at all ⊢
    have d9 : Dr g7 2 0 3 (1000 + 500000 * ((i + 1 : Nat) : Int)) := d8.mono (by omega)
    have i16 : i + 1 ≤ 16 := by omega
    clear gd gu gv gt wd wu wv wt_ dd pu pv pt d6 d7 d8 e7 e8 ke hi hx d1
    walk_at "run"
    refine ev_for (fun j e g => g = g7 ∧ ∃ s7 s8, e = [.val sc, .val (.ref 2), .val far, .val (.int (0 + (i : Nat))), .val (.lst (ws.map .str)), .val d, .val u, s7, s8, .un]) ⟨rfl, _, _, rfl⟩ ?_ ?_
    · rintro j x e g hx ⟨rfl, s7, s8, rfl⟩
      obtain ⟨gx, wx, px⟩ := all x (List.mem_of_getElem? hx)
      obtain ⟨st, est⟩ := gx.text wx px
      have lo := gx.lo
      refine ⟨_, rfl, ?_⟩
      simp only [setV, List.set_cons_succ, List.set_cons_zero]
      walk_at "run"
      refine w_of est ?_
      walk_at "run"
      refine ev_of (pattern_ok (n := 44) W.wp lo) ?_
      walk_at "run"
      refine w_reprD Rok.bl ?_
      walk_at "run"
      have lp := lparts_ok (G := G) W.lp 10 51 x lo
      refine ev_of lp ?_
      walk_at "run"
      rw [partsL_iff]
      refine w_reprD Rok.bl ?_
      walk_at "run"
      refine w_neSt ?_
      rw [decide_eq_true rfl, show (!true) = false from rfl]
      walk_at "run"
      refine w_of est ?_
      walk_at "run"
      refine w_neSt ?_
      rw [decide_eq_true rfl, show (!true) = false from rfl]
      walk_at "run"
      exact ⟨rfl, _, _, rfl⟩
    · rintro e g ⟨rfl, s7, s8, rfl⟩
      exact ⟨i16, d9, _, _, _, _, _, _, rfl⟩
  · rintro e g ⟨hi0, d1, s3, s4, s5, s6, s7, s8, rfl⟩
    walk_at "run"
    rfl
end
namespace K20
theorem F20 : L20 T G "MOST_DEEP_worths" "MOST_DEEP_patterns" where
  wp := {
    whole := T_is_whole
    among := T_is_among
    leaf := T_is_leaf
    gLeaf := G_MOST_LEAF
    size := T_size_within
    gThings := G_MOST_THINGS
    gSize := G_MOST_SIZE
    worth := T_is_worth
    gDeepW := G_MOST_DEEP_worths
    name := T_is_name
    gLetters := G_LETTERS
    gMost := G_MOST_LETTERS
    gBarred := G_BARRED
    items := T_are_items
    form := T_has_form
    within := T_within
    parts := T_parts_within
    pattern := T_is_pattern
    gParts := G_MOST_PARTS
    gDeepP := G_MOST_DEEP_patterns
    gArgs := G_MOST_ARGS
    gPairs := G_PAIRS
    gLone := G_LONE }
  lp := ⟨T__law_is_name, T__law_size, T__law_inner, T__law_parts⟩
  pat := {
    mixed := T__law_mixed
    draw := T__law_draw
    leaf := T__law_leaf
    row := T__law_row
    items := T__law_item_parts
    pattern := T__law_pattern }
  sp := ⟨T__law_mixed, T__law_draw, T__law_spots, T__law_at, T__law_put, T__law_odd, T__law_spoilt⟩
  folded := T__law_folded
  begun := T__law_begun
  words := T__law_words
  known := T__law_known
  wrapped := T__law_wrapped
  worths := T__law_worths
  names := T__law_names
  bounds := T__law_bounds
  truths := T__law_truths
def level : Nat := 70
theorem run_law : ∀ ns : List Int, ns.length ≤ 63 → ∃ h', run T G level "law" [scriptD ns] [] = .ok (.dat (.bl true)) h' := fun ns hn => by
  obtain ⟨a, h', e, rfl⟩ := ev_iff.mp (law_g F20 rfl T_law hn)
  exact ⟨h', e⟩
end K20
end Mi
open PySem PySem.W PyProof.Rows
set_option maxHeartbeats 0 in
theorem PySem.Challenge.cw_waysfold_k20_what_is_a_pattern_holds : PySem.Challenge.rw_waysfold_k20_what_is_a_pattern.Holds := by
  w_on; o_law; k_head; (case hw => w_witness2)
  k_fill
  letI : Mi.Tb := ⟨Mi.tabsOf Mi.K20.lams⟩
  refine Mi.walkG (l := PySem.Challenge.rw_waysfold_k20_what_is_a_pattern) (n := 63) (k := Mi.K20.level) (T := Mi.K20.T) (G := Mi.K20.G) (bs := Mi.K20.bs) rfl (by decide) rfl ⟨rfl, by decide, by decide⟩ (ts := []) (fun w h Y => PySem.W.kIn_of Y) (fun _ _ _ _ h => nomatch h) (fun w => rfl) (fun w => rfl) ?F (e := Mi.K20.f_law) Mi.K20.T_law Mi.K20.run_law
  case F =>
    intro w mg h KX G
    refine' Mi.K20.all_mk KX G ?a0 ?l0 ?c0 ?k0 ?a1 ?l1 ?c1 ?k1 ?a2 ?l2 ?c2 ?k2 ?a3 ?l3 ?c3 ?k3 ?a4 ?l4 ?c4 ?k4 ?a5 ?l5 ?c5 ?k5 ?a6 ?l6 ?c6 ?k6 ?a7 ?l7 ?c7 ?k7 ?a8 ?l8 ?c8 ?k8 ?a9 ?l9 ?c9 ?k9 ?a10 ?l10 ?c10 ?k10 ?a11 ?l11 ?c11 ?k11 ?a12 ?l12 ?c12 ?k12 ?a13 ?l13 ?c13 ?k13 ?a14 ?l14 ?c14 ?k14 ?a15 ?l15 ?c15 ?k15 ?a16 ?l16 ?c16 ?k16 ?a17 ?l17 ?c17 ?k17 ?a18 ?l18 ?c18 ?k18 ?a19 ?l19 ?c19 ?k19 ?a20 ?l20 ?c20 ?k20 ?a21 ?l21 ?c21 ?k21 ?a22 ?l22 ?c22 ?k22 ?a23 ?l23 ?c23 ?k23 ?a24 ?l24 ?c24 ?k24 ?a25 ?l25 ?c25 ?k25 ?a26 ?l26 ?c26 ?k26 ?a27 ?l27 ?c27 ?k27 ?a28 ?l28 ?c28 ?k28 ?a29 ?l29 ?c29 ?k29 ?a30 ?l30 ?c30 ?k30 ?a31 ?l31 ?c31 ?k31 ?a32 ?l32 ?c32 ?k32 ?a33 ?l33 ?c33 ?k33 ?a34 ?l34 ?c34 ?k34 ?a35 ?l35 ?c35 ?k35 ?g0a ?g0k ?g1a ?g1k ?g2a ?g2k ?g3a ?g3l ?g3k ?g4a ?g4k ?g5a ?g5k ?g6a ?g6k ?g7a ?g7k ?g8a ?g8k ?g9a ?g9k ?g10a ?g10l ?g10k ?g11a ?g11l ?g11k ?d0a ?d0l ?d0k ?d0s ?d0c ?z0 ?z1 ?z2 ?z3 ?z4 ?z5 ?z6 ?z7 ?z8 ?z9 ?z10 ?z11 ?z12
    (case a0 => k_is); (case l0 => k_is); (case c0 => k_is); (case k0 => k_is); (case a1 => k_is); (case l1 => k_is); (case c1 => k_is); (case k1 => k_is); (case a2 => k_is); (case l2 => k_is); (case c2 => k_is); (case k2 => k_is); (case a3 => k_is); (case l3 => k_is); (case c3 => k_is); (case k3 => k_is); (case a4 => k_is); (case l4 => k_is); (case c4 => k_is); (case k4 => k_is); (case a5 => k_is); (case l5 => k_is); (case c5 => k_is); (case k5 => k_is); (case a6 => k_is); (case l6 => k_is); (case c6 => k_is); (case k6 => k_is); (case a7 => k_is); (case l7 => k_is); (case c7 => k_is); (case k7 => k_is); (case a8 => k_is); (case l8 => k_is); (case c8 => k_is); (case k8 => k_is); (case a9 => k_is); (case l9 => k_is); (case c9 => k_is); (case k9 => k_is); (case a10 => k_is); (case l10 => k_is); (case c10 => k_is); (case k10 => k_is); (case a11 => k_is); (case l11 => k_is); (case c11 => k_is); (case k11 => k_is); (case a12 => k_is); (case l12 => k_is); (case c12 => k_is); (case k12 => k_is); (case a13 => k_is); (case l13 => k_is); (case c13 => k_is); (case k13 => k_is); (case a14 => k_is); (case l14 => k_is); (case c14 => k_is); (case k14 => k_is); (case a15 => k_is); (case l15 => k_is); (case c15 => k_is); (case k15 => k_is); (case a16 => k_is); (case l16 => k_is); (case c16 => k_is); (case k16 => k_is); (case a17 => k_is); (case l17 => k_is); (case c17 => k_is); (case k17 => k_is); (case a18 => k_is); (case l18 => k_is); (case c18 => k_is); (case k18 => k_is); (case a19 => k_is); (case l19 => k_is); (case c19 => k_is); (case k19 => k_is); (case a20 => k_is); (case l20 => k_is); (case c20 => k_is); (case k20 => k_is); (case a21 => k_is); (case l21 => k_is); (case c21 => k_is); (case k21 => k_is); (case a22 => k_is); (case l22 => k_is); (case c22 => k_is); (case k22 => k_is); (case a23 => k_is); (case l23 => k_is); (case c23 => k_is); (case k23 => k_is); (case a24 => k_is); (case l24 => k_is); (case c24 => k_is); (case k24 => k_is); (case a25 => k_is); (case l25 => k_is); (case c25 => k_is); (case k25 => k_is); (case a26 => k_is); (case l26 => k_is); (case c26 => k_is); (case k26 => k_is); (case a27 => k_is); (case l27 => k_is); (case c27 => k_is); (case k27 => k_is); (case a28 => k_is); (case l28 => k_is); (case c28 => k_is); (case k28 => k_is); (case a29 => k_is); (case l29 => k_is); (case c29 => k_is); (case k29 => k_is); (case a30 => k_is); (case l30 => k_is); (case c30 => k_is); (case k30 => k_is); (case a31 => k_is); (case l31 => k_is); (case c31 => k_is); (case k31 => k_is); (case a32 => k_is); (case l32 => k_is); (case c32 => k_is); (case k32 => k_is); (case a33 => k_is); (case l33 => k_is); (case c33 => k_is); (case k33 => k_is); (case a34 => k_is); (case l34 => k_is); (case c34 => k_is); (case k34 => k_is); (case a35 => k_is); (case l35 => k_is); (case c35 => k_is); (case k35 => k_is); (case g0a => k_is); (case g0k => rfl); (case g1a => k_is); (case g1k => rfl); (case g2a => k_is); (case g2k => rfl); (case g3a => k_is); (case g3l => k_is); (case g3k => rfl); (case g4a => k_is); (case g4k => rfl); (case g5a => k_is); (case g5k => rfl); (case g6a => k_is); (case g6k => rfl); (case g7a => k_is); (case g7k => rfl); (case g8a => k_is); (case g8k => rfl); (case g9a => k_is); (case g9k => rfl); (case g10a => k_is); (case g10l => k_is); (case g10k => rfl); (case g11a => k_is); (case g11l => k_is); (case g11k => rfl); (case d0a => k_is); (case d0l => k_is); (case d0k => exact ⟨⟨_, _, rfl, rfl⟩, ⟨_, _, rfl, rfl⟩, trivial⟩); (case d0s => rfl); (case d0c => rfl); (case z0 => k_is); (case z1 => k_is); (case z2 => k_is); (case z3 => k_is); (case z4 => k_is); (case z5 => k_is); (case z6 => k_is); (case z7 => k_is); (case z8 => k_is); (case z9 => k_is); (case z10 => k_is); (case z11 => k_is); (case z12 => k_is)
