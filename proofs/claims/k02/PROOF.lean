import PyProof.Rows.All
import Wide.All
import OpenK.AllK
import Wide.FinOn
import HandS.ForMost
import HandS.TupMul
import HandS.IsInst
import HandS.TupAny
import HandS.Style
import HandS.Replace
import PyProof.ReprLen
import PySem.Challenge.RW_waysfold_k02_words_of_rows
set_option Elab.async false
set_option linter.all false
set_option autoImplicit false
set_option maxRecDepth 100000
set_option maxHeartbeats 0
/-! Mi0: rules that the layer lacks. -/
namespace Mi
open PySem PySem.Spec PyProof.Rows L2
def repS0 (a : Str) (n : Nat) : Str := ⟨(List.replicate n a.cps).foldl (· ++ ·) #[]⟩
theorem repS0_eq (a : Str) (n : Nat) : repS0 a n = ⟨(List.replicate n a.cps.toList).flatten.toArray⟩ := by
  have f0 : ∀ (m : Nat) (acc : Array Nat), List.foldl (fun x1 x2 => x1 ++ x2) acc (List.replicate m a.cps) = acc ++ (List.replicate m a.cps.toList).flatten.toArray := by
    intro m
    induction m with
    | zero => intro acc; simp
    | succ m ih =>
      intro acc
      rw [List.replicate_succ, List.foldl_cons, ih, List.replicate_succ, List.flatten_cons]
      apply Array.ext'
      simp
  unfold repS0
  rw [f0 n #[]]
  simp
theorem repS0_len (a : Str) (n : Nat) : (repS0 a n).length = a.length * n := by
  rw [repS0_eq]
  show (List.replicate n a.cps.toList).flatten.toArray.size = _
  rw [List.size_toArray]
  induction n with
  | zero => simp
  | succ n ih =>
    rw [List.replicate_succ, List.flatten_cons, List.length_append, ih, Nat.mul_succ]
    simp [Str.length]
    omega
@[irreducible] def repS (a : Str) (n : Nat) : Str := repS0 a n
theorem repS_def (a : Str) (n : Nat) : repS a n = repS0 a n := by unfold repS; rfl
theorem repS_eq (a : Str) (n : Nat) : repS a n = ⟨(List.replicate n a.cps.toList).flatten.toArray⟩ := by rw [repS_def, repS0_eq]
theorem repS_len (a : Str) (n : Nat) : (repS a n).length = a.length * n := by rw [repS_def, repS0_len]
def rMulS : R2 := fun x y H Q => ∃ a k, x = .str a ∧ y = .int k ∧ -(2 ^ 63) ≤ k ∧ k < 2 ^ 63 ∧ a.length * k.toNat ≤ sizeLine ∧ Q (.str (repS a k.toNat)) H
theorem op_mulS {X : Cx} : OpR X (binaryOp .Mult) rMulS := by
  intro pins s σ H x y v u Q I rx ry h
  obtain ⟨a, k, rfl, rfl, h1, h2, hz, q⟩ := h
  rw [repS_def] at q
  obtain ⟨t, rfl⟩ := rx
  obtain ⟨t', rfl⟩ := ry
  refine P.mul_str (by rw [decide_eq_false (by omega), decide_eq_false (by omega)]; rfl) (fun n1 n2 => ?_) (fun n1 n2 => ?_) ?_
  · have e1 : k ≠ 1 ∧ a.length ≠ 0 := by
      simp only [Bool.or_eq_false_iff, beq_eq_false_iff_ne, ne_eq] at n2; exact n2
    intro h
    have hz2 : (a.length : Int) * k ≤ (sizeLine : Nat) := by
      have : ((a.length * k.toNat : Nat) : Int) = (a.length : Int) * k := by rw [Int.natCast_mul, Int.toNat_of_nonneg (by omega)]
      omega
    have hs : ((sizeLine : Nat) : Int) ≤ 2 ^ 63 - 1 := by decide
    have := (Int.ediv_lt_iff_lt_mul (a := 2 ^ 63 - 1) (b := (a.length : Int)) (c := k) (by omega)).mp (by omega)
    omega
  · unfold Builtin.Str.tooLong
    exact decide_eq_false (by omega)
  · by_cases h1 : k < 1
    · rw [if_pos h1]
      have e : k.toNat = 0 := by omega
      rw [e] at q
      exact ⟨by decide, .str Str.empty, H, I.tok _, ⟨_, rfl⟩, q⟩
    · rw [if_neg h1]
      by_cases h3 : (k == 1 || a.length == 0) = true
      · rw [if_pos h3]
        have e : repS0 a k.toNat = a := by
          simp only [Bool.or_eq_true, beq_iff_eq] at h3
          rcases h3 with rfl | h3
          · unfold repS0; simp
          · have ec : a.cps.toList = [] := List.eq_nil_of_length_eq_zero (by rw [Array.length_toList]; exact h3)
            rw [repS0_eq, ec]
            have : ∀ m : Nat, (List.replicate m ([] : List Nat)).flatten = [] := by
              intro m
              induction m with
              | zero => rfl
              | succ m ih => rw [List.replicate_succ, List.flatten_cons, ih]; rfl
            rw [this]
            cases a with | mk c => cases c with | mk l => simp at ec; subst ec; rfl
        rw [e] at q
        exact ⟨.str a, H, I, ⟨_, rfl⟩, q⟩
      · rw [if_neg h3]
        exact ⟨by show (repS0 a k.toNat).length ≤ _; rw [repS0_len]; exact hz, .str _, H, I.tok _, ⟨_, rfl⟩, q⟩
theorem mulT_same (l : Addr) (its : Array Value) (n : Nat) (dd : Option Addr) (sl : Array (Option Value)) (x : Int) (u : Tok)
    (c0 : (decide (x < -(2 ^ 63)) || decide (x ≥ 2 ^ 63)) = false) (c1 : (its.isEmpty || x == 1) = true) :
    Meets (Builtin.«tuple.__mul__» ⟨[.ref l, .int x u], []⟩) (fun _ R s =>
      s.heap.get? l = some { cls := .type "tuple", dict := dd, data := .seq its n, slots := sl } ∧ R (.ok (.ret (Value.ref l))) s) :=
  .of_wp fun prog w A R s h => by
    obtain ⟨hp, g, d, tk, os⟩ := s
    obtain ⟨hl, h⟩ := h
    have f1 := AutoSeq1.idx_int
    wp_walk using wpAny_loadPart' hl
    refine wpAny_ite_false (decide_eq_false (by rw [c0]; exact Bool.false_ne_true)) ?_
    wp_walk using wpAny_loadPart' hl
    exact ⟨_, rfl, h⟩
theorem mulT_none (l : Addr) (its : Array Value) (n : Nat) (dd : Option Addr) (sl : Array (Option Value)) (x : Int) (u : Tok)
    (c0 : (decide (x < -(2 ^ 63)) || decide (x ≥ 2 ^ 63)) = false) (c1 : (its.isEmpty || x == 1) = false) (c2 : (decide (x ≤ 0) || its.isEmpty) = true) :
    Meets (Builtin.«tuple.__mul__» ⟨[.ref l, .int x u], []⟩) (fun _ R s =>
      s.heap.get? l = some { cls := .type "tuple", dict := dd, data := .seq its n, slots := sl } ∧
      R (.ok (.ret (Value.ref s.heap.objs.size))) { s with heap := s.heap.push { cls := Value.type "tuple", data := Data.seq #[] }, toks := s.toks }) :=
  .of_wp fun prog w A R s h => by
    obtain ⟨hp, g, d, tk, os⟩ := s
    obtain ⟨hl, h⟩ := h
    have f1 := AutoSeq1.idx_int
    wp_walk using wpAny_loadPart' hl
    repeat (first
      | (refine wpAny_ite_false (decide_eq_false (by rw [c0]; exact Bool.false_ne_true)) ?_; wp_walk using wpAny_loadPart' hl)
      | (refine wpAny_ite_false (decide_eq_false (by rw [c1]; exact Bool.false_ne_true)) ?_; wp_walk using wpAny_loadPart' hl))
    exact ⟨_, rfl, h⟩
/-- tuple * int -/
def rRepA (K : PySem.W.Frag) : R2 := fun x y H Q => ∃ l k xs, x = .ref l ∧ y = .int k ∧ SqT K H l xs ∧ -(2 ^ 63) ≤ k ∧ k < 2 ^ 63 ∧ xs.length * k.toNat ≤ 1000000 ∧
  ((xs = [] ∨ k = 1) → Q (.ref l) H) ∧ (¬ (xs = [] ∨ k = 1) → ∀ p, H p = none → Q (.ref p) (upd H p (.tup (List.replicate k.toNat xs).flatten)))
theorem op_repA {X : Cx} : OpR X (binaryOp .Mult) (rRepA X.K) := by
  intro pins s σ H x y v u Q I rx ry h
  obtain ⟨l, k, xs, rfl, rfl, hT, h1, h2, hz, q1, q2⟩ := h
  cases rx
  obtain ⟨t, rfl⟩ := ry
  obtain ⟨its, r, ⟨⟨cls, dd, data, sl⟩, ho, hc, n, hd⟩, hs⟩ := I.tuple hT
  simp only at hc hd
  subst hc hd
  have hle : its.length = xs.length := r.length.symm
  have c0 : (decide (k < -(2 ^ 63)) || decide (k ≥ 2 ^ 63)) = false := by rw [decide_eq_false (by omega), decide_eq_false (by omega)]; rfl
  by_cases e1 : xs = [] ∨ k = 1
  · have c1 : (its.toArray.isEmpty || k == 1) = true := by
      rcases e1 with e1 | e1
      · subst e1
        have : its = [] := List.eq_nil_of_length_eq_zero (by simpa using hle)
        subst this; rfl
      · subst e1; simp
    refine wpAny_binaryOp_repeat_ref (T := "tuple") (U := "int") (by decide) ⟨_, ho, rfl⟩ (fun s' => typeIs_int s' k t) noFill_tuple_mul F.fills_int_mul F.slot_int_rmul repeat_tuple F.slot_int_index.lookup
      (call_meets F.slot_int_rmul (typeIs_int s k t) F.entry_int_rmul (F.args_int_rmul_2 _ _) (int_rmul_tuple k t l its.toArray n dd sl)
        ⟨ho, rfl, ⟨_, ho, rfl⟩, call_meets F.slot_tuple_mul ⟨_, ho, rfl⟩ F.entry_tuple_mul (F.args_tuple_mul_2 _ _) (mulT_same l its.toArray n dd sl k t c0 c1) ⟨ho, ?_⟩⟩)
    exact ⟨.ref l, H, I, rfl, q1 e1⟩
  · have hne : xs ≠ [] := fun z => e1 (.inl z)
    have hk : k ≠ 1 := fun z => e1 (.inr z)
    have hn : its ≠ [] := fun e => hne (by rw [e] at hle; exact List.eq_nil_of_length_eq_zero hle.symm)
    have hi : its.toArray.isEmpty = false := by
      cases its with
      | nil => exact absurd rfl hn
      | cons a b => rfl
    have c1 : (its.toArray.isEmpty || k == 1) = false := by rw [hi, Bool.false_or]; exact beq_eq_false_iff_ne.mpr hk
    have hrep : (List.replicate k.toNat xs).flatten.length = xs.length * k.toNat := by rw [PyProof.Rows.lm_len_rep_flat, Nat.mul_comm]
    by_cases hk0 : k ≤ 0
    · have c2 : (decide (k ≤ 0) || its.toArray.isEmpty) = true := by rw [decide_eq_true hk0]; rfl
      refine wpAny_binaryOp_repeat_ref (T := "tuple") (U := "int") (by decide) ⟨_, ho, rfl⟩ (fun s' => typeIs_int s' k t) noFill_tuple_mul F.fills_int_mul F.slot_int_rmul repeat_tuple F.slot_int_index.lookup
        (call_meets F.slot_int_rmul (typeIs_int s k t) F.entry_int_rmul (F.args_int_rmul_2 _ _) (int_rmul_tuple k t l its.toArray n dd sl)
          ⟨ho, rfl, ⟨_, ho, rfl⟩, call_meets F.slot_tuple_mul ⟨_, ho, rfl⟩ F.entry_tuple_mul (F.args_tuple_mul_2 _ _) (mulT_none l its.toArray n dd sl k t c0 c1 c2) ⟨ho, ?_⟩⟩)
      have e0 : k.toNat = 0 := by omega
      have q3 := q2 e1 _ (I.hok.fresh (Nat.le_refl _))
      rw [e0] at q3
      refine ⟨.ref s.heap.objs.size, _, I.laid (t' := s.toks) (o := .tup []) (fun b ob q => Heap.get?_push_of_some _ q) (Nat.le_refl _) ?_, rfl, q3⟩
      exact ⟨by decide, _, .nil, IsTup.new _ _⟩
    · have hm : ((its.toArray.size : Nat) : Int) * k ≤ 1000000 := by
        have : ((its.toArray.size * k.toNat : Nat) : Int) = (its.toArray.size : Nat) * k := by rw [Int.natCast_mul, Int.toNat_of_nonneg (by omega)]
        rw [← this, List.size_toArray, hle]
        omega
      have c2 : (decide (k ≤ 0) || its.toArray.isEmpty) = false := by rw [hi, Bool.or_false]; exact decide_eq_false hk0
      have c4 : Builtin.Tuple.tupleTooMany (((its.toArray.size : Nat) : Int) * k) = false := by
        unfold Builtin.Tuple.tupleTooMany
        rw [sizeLine_eq]
        exact decide_eq_false (by omega)
      have flen : (List.replicate k.toNat its).flatten.length ≤ sizeLine := by
        rw [PyProof.Rows.lm_len_rep_flat, hle, sizeLine_eq, Nat.mul_comm]; omega
      refine wpAny_binaryOp_repeat_ref (T := "tuple") (U := "int") (by decide) ⟨_, ho, rfl⟩ (fun s' => typeIs_int s' k t) noFill_tuple_mul F.fills_int_mul F.slot_int_rmul repeat_tuple F.slot_int_index.lookup
        (call_meets F.slot_int_rmul (typeIs_int s k t) F.entry_int_rmul (F.args_int_rmul_2 _ _) (int_rmul_tuple k t l its.toArray n dd sl)
          ⟨ho, rfl, ⟨_, ho, rfl⟩, call_meets F.slot_tuple_mul ⟨_, ho, rfl⟩ F.entry_tuple_mul (F.args_tuple_mul_2 _ _) (tuple_mulW l its.toArray n dd sl k t c0 c1 c2 (by omega) c4 (by rw [size_rep, List.size_toArray]; exact flen)) ⟨ho, ?_⟩⟩)
      rw [size_rep]
      refine ⟨.ref s.heap.objs.size, _, I.laid (t' := s.toks) (o := .tup (List.replicate k.toNat xs).flatten) (fun b ob q => Heap.get?_push_of_some _ q) (Nat.le_refl _) ?_, rfl, q2 e1 _ (I.hok.fresh (Nat.le_refl _))⟩
      exact ⟨by rw [hrep, sizeLine_eq]; omega, _, r.rep k.toNat, IsTup.new _ _⟩
end Mi
/-! Mi1: a small language over plain data, and its evaluator. -/
namespace Mi
open PySem PySem.Spec PyProof.Rows L2

/-- data -/
inductive D where
  | non | bl (b : Bool) | int (i : Int) | str (s : Str)
  | tup (l : List D)
  | lst (l : List D)
  | arg (l : List D)
  | ref (n : Nat)
  deriving Inhabited
/-- what an expression gives: data, a list just made, a list that a name owns -/
inductive R where
  | dat (d : D) | new (l : List D) | bor (l : List D)
/-- what stands in the small heap -/
inductive O where
  | lst (l : List D)
  | dct (l : List (Key × D))
abbrev Hh := List O
structure Exc where
  cls : Str
  fs : List D
inductive Res (α : Type) where
  | ok (a : α) (h : Hh)
  | ex (x : Exc) (h : Hh)
  | bad
def Res.bind {α β : Type} : Res α → (α → Hh → Res β) → Res β
  | .ok a h, f => f a h
  | .ex x h, _ => .ex x h
  | .bad, _ => .bad
/-- a pure answer -/
def Res.of {α : Type} (h : Hh) : Option α → Res α
  | some a => .ok a h
  | none => .bad
inductive Slot where
  | un | val (d : D) | own (l : List D)
abbrev Env' := List Slot

def R.fz : R → Option D
  | .dat d => some d
  | .new l => some (.lst l)
  | .bor _ => none
def lv (h : Hh) : R → Option (List D)
  | .dat (.lst l) => some l
  | .new l => some l
  | .bor l => some l
  | .dat (.ref n) => match h[n]? with
    | some (.lst l) => some l
    | _ => none
  | _ => none
/-- any list, any tuple -/
def sv (h : Hh) : R → Option (List D)
  | .dat (.tup l) => some l
  | .dat (.arg l) => some l
  | r => lv h r

inductive Bop where
  | add | sub | mul | fdiv | mod | pow
inductive Cop where
  | eq | ne | lt | le | gt | ge | isin | notin | is | isnot
inductive Ty where
  | int | bool | str | tuple | list
inductive Blt where
  | len | all | any | repr | toInt | toStr | toTuple | toList | setLen | min2 | max2 | sum | maxL | minL | sorted
inductive Mth where
  | split | join | index

mutual
def D.py : D → Option PyData
  | .non => some .none
  | .bl b => some (.bool b)
  | .int i => some (.int i)
  | .str s => some (.str s)
  | .tup l => (pyAll l).map .tuple
  | .lst l => (pyAll l).map .list
  | .arg l => (pyAll l).map .list
  | .ref _ => none
def pyAll : List D → Option (List PyData)
  | [] => some []
  | d :: l => match d.py, pyAll l with
    | some x, some xs => some (x :: xs)
    | _, _ => none
end
def R.py : R → Option PyData
  | .dat d => d.py
  | .new l => (pyAll l).map .list
  | .bor l => (pyAll l).map .list
def R.pyH (h : Hh) : R → Option PyData
  | .dat (.ref n) => match h[n]? with
    | some (.lst l) => (pyAll l).map .list
    | _ => none
  | r => r.py

def addF (h : Hh) : R → R → Option R
  | .dat (.int i), .dat (.int j) => some (.dat (.int (i + j)))
  | .dat (.str a), .dat (.str b) => if a.length + b.length ≤ sizeLine then some (.dat (.str (a ++ b))) else none
  | .dat (.tup a), .dat (.tup b) => if a.length + b.length ≤ sizeLine then some (.dat (.tup (a ++ b))) else none
  | x, y => match lv h x, lv h y with
    | some a, some b => if a.length + b.length ≤ sizeLine then some (.new (a ++ b)) else none
    | _, _ => none
def near (i : Int) : Bool := decide (-(2 ^ 64) < i) && decide (i < 2 ^ 64)
def twoI (f : Int → Int → Option D) : R → R → Option R
  | .dat (.int i), .dat (.int j) => (f i j).map .dat
  | _, _ => none
def mulI (i j : Int) : Option D := if near i || near j then some (.int (i * j)) else none
def fdivI (i j : Int) : Option D := if j ≠ 0 ∧ j.natAbs < 1073741824 then some (.int (i.fdiv j)) else none
def modI (i j : Int) : Option D := if j ≠ 0 then some (.int (i.fmod j)) else none
def mulF (h : Hh) : R → R → Option R
  | .dat (.int i), .dat (.int j) => (mulI i j).map .dat
  | .dat (.str a), .dat (.int k) => if -(2 ^ 63) ≤ k ∧ k < 2 ^ 63 ∧ a.length * k.toNat ≤ sizeLine then some (.dat (.str (repS a k.toNat))) else none
  | .dat (.tup a), .dat (.int k) => if -(2 ^ 63) ≤ k ∧ k < 2 ^ 63 ∧ a.length * k.toNat ≤ 1000000 then some (.dat (.tup (List.replicate k.toNat a).flatten)) else none
  | x, .dat (.int k) => match lv h x with
    | some l => if -(2 ^ 63) ≤ k ∧ k < 2 ^ 63 ∧ l.length * k.toNat ≤ sizeLine then some (.new (List.replicate k.toNat l).flatten) else none
    | none => none
  | _, _ => none
def powI (i j : Int) : Option D := if 0 ≤ j ∧ j ≤ 1000000 ∧ i.natAbs < 2 ^ 64 then some (.int (i ^ j.toNat)) else none
def binF (h : Hh) : Bop → R → R → Option R
  | .add => addF h
  | .sub => twoI fun i j => some (.int (i - j))
  | .mul => mulF h
  | .fdiv => twoI fdivI
  | .mod => twoI modI
  | .pow => twoI powI
def eqF (h : Hh) (x y : R) : Option Bool :=
  match x, y with
  | .dat (.str a), .dat (.str b) => some (decide (a = b))
  | x, y => match x.pyH h, y.pyH h with
  | some a, some b => if SeqAt.shaped a && SeqAt.shaped b then some (PyData.eqv a b) else none
  | _, _ => none
def strsOf : List D → Option (List Str)
  | [] => some []
  | .str s :: l => (strsOf l).map (s :: ·)
  | _ => none
def boolsOf : List D → Option (List Bool)
  | [] => some []
  | .bl s :: l => (boolsOf l).map (s :: ·)
  | _ => none
def intsOf : List D → Option (List Int)
  | [] => some []
  | .int s :: l => (intsOf l).map (s :: ·)
  | _ => none
def D.flat : D → Option V
  | .non => some .non
  | .bl b => some (.bl b)
  | .int i => some (.int i)
  | .str x => some (.str x)
  | _ => none
def flats : List D → Option (List V)
  | [] => some []
  | d :: l => match d.flat, flats l with
    | some v, some vs => some (v :: vs)
    | _, _ => none
/-- x in y -/
def inF (h : Hh) : R → R → Option Bool
  | .dat (.str a), .dat (.str b) => match a.cps.toList with
    | [c] => some (decide (c ∈ b.cps.toList))
    | _ => none
  | .dat d, y => match d.flat, (sv h y).bind flats with
    | some v, some vs => some (inV v vs)
    | _, _ => none
  | _, _ => none
def ordF (f : Int → Int → Bool) : R → R → Option Bool
  | .dat (.int i), .dat (.int j) => some (f i j)
  | _, _ => none
def isN : R → R → Option Bool
  | .dat .non, .dat .non => some true
  | _, .dat .non => some false
  | _, _ => none
def cmpF (h : Hh) : Cop → R → R → Option Bool
  | .eq, x, y => eqF h x y
  | .ne, x, y => (eqF h x y).map (!·)
  | .lt, x, y => ordF (fun i j => decide (i < j)) x y
  | .le, x, y => ordF (fun i j => decide (i ≤ j)) x y
  | .gt, x, y => ordF (fun i j => decide (j < i)) x y
  | .ge, x, y => ordF (fun i j => decide (j ≤ i)) x y
  | .isin, x, y => inF h x y
  | .notin, x, y => (inF h x y).map (!·)
  | .is, x, y => isN x y
  | .isnot, x, y => (isN x y).map (!·)
def isiF (h : Hh) (t : Ty) : D → Option Bool
  | .non => some false
  | .bl _ => some (match t with | .int => true | .bool => true | _ => false)
  | .int _ => some (match t with | .int => true | _ => false)
  | .str _ => some (match t with | .str => true | _ => false)
  | .tup _ => some (match t with | .tuple => true | _ => false)
  | .lst _ => some (match t with | .list => true | _ => false)
  | .arg _ => none
  | .ref n => match h[n]? with
    | some (.lst _) => some (match t with | .list => true | _ => false)
    | some (.dct _) => some false
    | none => none
def lenF (h : Hh) : List D → Option R
  | [.str s] => if s.length ≤ sizeLine then some (.dat (.int s.length)) else none
  | [d] => (sv h (.dat d)).map fun l => .dat (.int l.length)
  | _ => none
def allF : List D → Option R
  | [.lst l] => (boolsOf l).map fun bs => .dat (.bl (bs.all id))
  | _ => none
def anyF : List D → Option R
  | [.lst l] => (boolsOf l).map fun bs => .dat (.bl (bs.any id))
  | _ => none
def reprF (h : Hh) : List D → Option R
  | [d] => match (R.dat d).pyH h with
    | some p => if p.showable && !p.hasDict && decide (p.shown.length ≤ sizeLine) && decide (p.depth ≤ 64) then some (.dat (.str p.shown)) else none
    | none => none
  | _ => none
def toIntF : List D → Option R
  | [.int i] => some (.dat (.int i))
  | [.bl b] => some (.dat (.int (if b then 1 else 0)))
  | [.str s] => match PySem.intText? s with
    | some n => if s.length ≤ 640 then some (.dat (.int n)) else none
    | none => none
  | _ => none
def toStrF : List D → Option R
  | [.int i] => if i.natAbs.log2 < 1920 then some (.dat (.str (toString i))) else none
  | _ => none
def toTupF (h : Hh) : List D → Option R
  | [.tup l] => some (.dat (.tup l))
  | [d] => (lv h (.dat d)).map fun l => .dat (.tup l)
  | _ => none
def toLstF (h : Hh) : List D → Option R
  | [d] => (sv h (.dat d)).map fun l => .new l
  | _ => none
def bltF (h : Hh) : Blt → List D → Option R
  | .len => lenF h
  | .all => allF
  | .any => anyF
  | .repr => reprF h
  | .toInt => toIntF
  | .toStr => toStrF
  | .toTuple => toTupF h
  | .toList => toLstF h
  | _ => fun _ => none
/-- a built-in of one thing, which may be a list that a name owns -/
def lenB (h : Hh) : R → Option R
  | .dat (.str s) => if s.length ≤ sizeLine then some (.dat (.int s.length)) else none
  | x => (sv h x).map fun l => .dat (.int l.length)
def reprB (h : Hh) (x : R) : Option R := match x.pyH h with
  | some p => if p.showable && !p.hasDict && decide (p.shown.length ≤ sizeLine) && decide (p.depth ≤ 64) then some (.dat (.str p.shown)) else none
  | none => none
def bltR (h : Hh) : Blt → R → Option R
  | .len => lenB h
  | .repr => reprB h
  | _ => fun _ => none
def splitF (a : Str) : List D → Option R
  | [.str b] => if (b.length == 0) = false ∧ a.length + 2 ≤ sizeLine then some (.new ((Txt.split a b).map .str)) else none
  | _ => none
def joinF (a : Str) : List D → Option R
  | [.lst l] => match strsOf l with
    | some ys => if (ys.map (·.length)).sum + ys.length * a.length ≤ 16777216 then some (.dat (.str (Txt.join a ys))) else none
    | none => none
  | _ => none
def indexF (a : Str) : List D → Option R
  | [.str b] => match Builtin.Str.occurrences a b 0 a.length 1 with
    | i :: _ => some (.dat (.int (i : Nat)))
    | [] => none
  | _ => none
def mthF : Mth → Str → List D → Option R
  | .index => indexF
  | .split => splitF
  | .join => joinF
def keyOf : D → Option Key
  | .int i => some (.inl i)
  | .str s => some (.inr s)
  | _ => none
def dLook (l : List (Key × D)) (k : Key) : Option D := (l.find? fun kv => decide (kv.1 = k)).map (·.2)
def dPut (l : List (Key × D)) (k : Key) (d : D) : List (Key × D) :=
  if (l.any fun kv => decide (kv.1 = k)) = true then l.map (fun kv => if kv.1 = k then (kv.1, d) else kv) else l ++ [(k, d)]
def dctOf (h : Hh) : R → Option (List (Key × D))
  | .dat (.ref n) => match h[n]? with
    | some (.dct l) => some l
    | _ => none
  | _ => none
def dgetF (h : Hh) (x y : R) : Option D := match dctOf h x, y with
  | some l, .dat k => (keyOf k).bind fun j => dLook l j
  | _, _ => none
def ixF (h : Hh) : R → R → Option D
  | .dat (.str z), .dat (.int i) => if z.length ≤ sizeLine then (atI z.cps.toList i).map fun c => .str ⟨#[c]⟩ else none
  | x, .dat (.int i) => (sv h x).bind fun l => atI l i
  | _, _ => none
/-- the part of a list between two places -/
def cutD (l : List D) (lo hi : Option Int) : List D := (l.drop (HT.sIx l.length 0 lo)).take (HT.sIx l.length l.length hi - HT.sIx l.length 0 lo)
def slF (h : Hh) (lo hi : Option Int) : R → Option R
  | .dat (.str z) => if z.length ≤ sizeLine then some (.dat (.str (cutS z lo hi))) else none
  | .dat (.tup l) => some (.dat (.tup (cutD l lo hi)))
  | x => (lv h x).map fun l => .new (cutD l lo hi)

def negF : R → Option R
  | .dat (.int i) => some (.dat (.int (-i)))
  | _ => none
mutual
inductive E where
  | var (i : Nat) | con (d : D) | glo (x : Str)
  | bin (op : Bop) (a b : E) | neg (a : E)
  | cmp (op : Cop) (a b : E) | chain (p q : Cop) (a b c : E)
  | and2 (a b : E) | or2 (a b : E) | not1 (a : E) | ite (c a b : E)
  | call (f : Str) (es : Es) | blt (f : Blt) (es : Es) | blt1 (f : Blt) (a : E) | isi (a : E) (t : Ty) | mth (m : Mth) (o : E) (es : Es)
  | ix (a b : E) | dget (a b : E) | sl (a : E) (lo hi : Oe)
  | tup (es : Es) | lst (es : Es) | dct (ks : List Key) (es : Es)
  | comp (own : List Nat) (t : Tg) (it : Iter) (c e : E)
  | promo (e : E)
inductive Oe where
  | no | part (e : E)
inductive Es where
  | nil | cons (e : E) (es : Es)
inductive Tg where
  | nm (i : Nat) | tp (is : List Nat)
inductive Iter where
  | seq (e : E) | rng1 (a : E) | rng2 (a b : E) | rng3 (a b c : E) | enum (e : E) | zip (a b : E) | items (e : E)
end

def Es.len : Es → Nat
  | .nil => 0
  | .cons _ es => es.len + 1
/-- names stored: i-th slot -/
def setV (env : Env') (i : Nat) (d : D) : Env' := env.set i (.val d)
def setVs : Env' → List Nat → List D → Option Env'
  | env, [], [] => some env
  | env, i :: is, d :: ds => setVs (setV env i d) is ds
  | _, _, _ => none
def Tg.bind : Tg → Env' → D → Option Env'
  | .nm i, env, d => some (setV env i d)
  | .tp is, env, .tup ds => setVs env is ds
  | .tp _, _, _ => none
def wipeE (env : Env') : List Nat → Env'
  | [] => env
  | v :: vs => (wipeE env vs).set v .un
def rngOk (i : Int) : Bool := decide (-(2 ^ 62) ≤ i) && decide (i < 2 ^ 62)
def rngL (lo : Int) (n : Nat) : List D := (List.range n).map fun k => .int (lo + (k : Nat))
def rng3L (lo c : Int) (n : Nat) : List D := (List.range n).map fun k => .int (lo + (k : Nat) * c)
def rng3R : R → R → R → Hh → Res (List D)
  | .dat (.int i), .dat (.int j), .dat (.int c), h => if c ≠ 0 ∧ c.natAbs < 1073741824 ∧ Builtin.Range.small i j c = true ∧ 0 ≤ Builtin.Range.rangeSize i j c then .ok (rng3L i c (Builtin.Range.rangeSize i j c).toNat) h else .bad
  | _, _, _, _ => .bad
def enumL : Nat → List D → List D
  | _, [] => []
  | k, d :: l => .tup [.int (k : Nat), d] :: enumL (k + 1) l
def zipL : List D → List D → List D
  | x :: xs, y :: ys => .tup [x, y] :: zipL xs ys
  | _, _ => []
def signsL (s : Str) : List D := s.cps.toList.map fun c => .str ⟨#[c]⟩
/-- what a loop walks: data that stays -/
def itF : R → Option (List D)
  | .dat (.tup l) => some l
  | .dat (.lst l) => some l
  | .dat (.arg l) => some l
  | .dat (.str s) => some (signsL s)
  | .new l => some l
  | _ => none
def itL : R → Option (List D)
  | .dat (.lst l) => some l
  | .dat (.arg l) => some l
  | .new l => some l
  | _ => none
/-- a comprehension's loop -/
def compLoop (f : D → Hh → Res (Option D)) : List D → List D → Hh → Res R
  | [], acc, h => .ok (.new acc) h
  | d :: ds, acc, h => match f d h with
    | .ok none h' => compLoop f ds acc h'
    | .ok (some x) h' => if acc.length < sizeLine then compLoop f ds (acc ++ [x]) h' else .bad
    | _ => .bad
abbrev Calls' := Str → List D → Hh → Res R
section
variable (C : Calls') (G : Str → Option D)
mutual
def evalE : E → Env' → Hh → Res R
  | .var i, env, h => match env[i]? with
    | some (.val d) => .ok (.dat d) h
    | some (.own l) => .ok (.bor l) h
    | _ => .bad
  | .con d, _, h => .ok (.dat d) h
  | .glo x, _, h => Res.of h ((G x).map .dat)
  | .bin op a b, env, h => (evalE a env h).bind fun x h1 => (evalE b env h1).bind fun y h2 => Res.of h2 (binF h2 op x y)
  | .neg a, env, h => (evalE a env h).bind fun x h1 => Res.of h1 (negF x)
  | .cmp op a b, env, h => (evalE a env h).bind fun x h1 => (evalE b env h1).bind fun y h2 => Res.of h2 ((cmpF h2 op x y).map fun b => .dat (.bl b))
  | .chain p q a b c, env, h => (evalE a env h).bind fun x h1 => (evalE b env h1).bind fun y h2 => match cmpF h2 p x y with
    | some true => (evalE c env h2).bind fun z h3 => Res.of h3 ((cmpF h3 q y z).map fun b => .dat (.bl b))
    | some false => .ok (.dat (.bl false)) h2
    | none => .bad
  | .and2 a b, env, h => (evalE a env h).bind fun x h1 => match x with
    | .dat (.bl true) => evalE b env h1
    | .dat (.bl false) => .ok (.dat (.bl false)) h1
    | _ => .bad
  | .or2 a b, env, h => (evalE a env h).bind fun x h1 => match x with
    | .dat (.bl true) => .ok (.dat (.bl true)) h1
    | .dat (.bl false) => evalE b env h1
    | _ => .bad
  | .not1 a, env, h => (evalE a env h).bind fun x h1 => match x with
    | .dat (.bl k) => .ok (.dat (.bl (!k))) h1
    | _ => .bad
  | .ite c a b, env, h => (evalE c env h).bind fun x h1 => match x with
    | .dat (.bl true) => evalE a env h1
    | .dat (.bl false) => evalE b env h1
    | _ => .bad
  | .call f es, env, h => (evalEs es env h).bind fun ds h1 => C f ds h1
  | .blt f es, env, h => (evalEs es env h).bind fun ds h1 => Res.of h1 (bltF h1 f ds)
  | .blt1 f a, env, h => (evalE a env h).bind fun x h1 => Res.of h1 (bltR h1 f x)
  | .isi a t, env, h => (evalE a env h).bind fun x h1 => match x.fz with
    | some d => Res.of h1 ((isiF h1 t d).map fun b => .dat (.bl b))
    | none => .bad
  | .mth m o es, env, h => (evalE o env h).bind fun x h1 => match x with
    | .dat (.str a) => (evalEs es env h1).bind fun ds h2 => Res.of h2 (mthF m a ds)
    | _ => .bad
  | .ix a b, env, h => (evalE a env h).bind fun x h1 => (evalE b env h1).bind fun y h2 => Res.of h2 ((ixF h2 x y).map .dat)
  | .dget a b, env, h => (evalE a env h).bind fun x h1 => (evalE b env h1).bind fun y h2 => Res.of h2 ((dgetF h2 x y).map .dat)
  | .sl a lo hi, env, h => (evalE a env h).bind fun x h1 => (evalO lo env h1).bind fun i h2 => (evalO hi env h2).bind fun j h3 => Res.of h3 (slF h3 i j x)
  | .tup es, env, h => (evalEs es env h).bind fun ds h1 => if ds.length ≤ sizeLine then .ok (.dat (.tup ds)) h1 else .bad
  | .lst es, env, h => (evalEs es env h).bind fun ds h1 => if ds.length ≤ sizeLine then .ok (.new ds) h1 else .bad
  | .dct ks es, env, h => (evalEs es env h).bind fun ds h1 => if ks.length ≤ 15 ∧ ks.Nodup then .ok (.dat (.ref h1.length)) (h1 ++ [.dct (ks.zip ds)]) else .bad
  | .comp own t it c e, env, h => (evalI it env h).bind fun ds h1 => compLoop (fun d h2 => match t.bind (wipeE env own) d with
    | none => .bad
    | some env' => (evalE c env' h2).bind fun b h3 => match b with
      | .dat (.bl true) => (evalE e env' h3).bind fun x h4 => match x.fz with
        | some y => .ok (some y) h4
        | none => .bad
      | .dat (.bl false) => .ok none h3
      | _ => .bad) ds [] h1
  | .promo e, env, h => (evalE e env h).bind fun x h1 => match x with
    | .new l => .ok (.dat (.ref h1.length)) (h1 ++ [.lst l])
    | .dat d => .ok (.dat d) h1
    | .bor _ => .bad
def evalO : Oe → Env' → Hh → Res (Option Int)
  | .no, _, h => .ok none h
  | .part e, env, h => (evalE e env h).bind fun x h1 => match x with
    | .dat (.int i) => .ok (some i) h1
    | _ => .bad
def evalEs : Es → Env' → Hh → Res (List D)
  | .nil, _, h => .ok [] h
  | .cons e es, env, h => (evalE e env h).bind fun x h1 => match x.fz with
    | some d => (evalEs es env h1).bind fun ds h2 => .ok (d :: ds) h2
    | none => .bad
def evalI : Iter → Env' → Hh → Res (List D)
  | .seq e, env, h => (evalE e env h).bind fun x h1 => Res.of h1 (itF x)
  | .rng1 a, env, h => (evalE a env h).bind fun x h1 => match x with
    | .dat (.int j) => if rngOk j then .ok (rngL 0 j.toNat) h1 else .bad
    | _ => .bad
  | .rng2 a b, env, h => (evalE a env h).bind fun x h1 => (evalE b env h1).bind fun y h2 => match x, y with
    | .dat (.int i), .dat (.int j) => if rngOk i && rngOk j then .ok (rngL i (j - i).toNat) h2 else .bad
    | _, _ => .bad
  | .rng3 a b c, env, h => (evalE a env h).bind fun x h1 => (evalE b env h1).bind fun y h2 => (evalE c env h2).bind fun z h3 => rng3R x y z h3
  | .enum e, env, h => (evalE e env h).bind fun x h1 => Res.of h1 ((itL x).map (enumL 0))
  | .zip a b, env, h => (evalE a env h).bind fun x h1 => (evalE b env h1).bind fun y h2 => match itL x, itL y with
    | some l, some m => .ok (zipL l m) h2
    | _, _ => .bad
  | .items _, _, _ => .bad
end

mutual
inductive S where
  | asg (i : Nat) (e : E)
  | own (i : Nat) (e : E)
  | any (i : Nat) (e : E)
  | par2 (i j : Nat) (a b : E)
  | asgs (is : List Nat) (e : E)
  | setL (o k e : E)
  | setD (o k e : E)
  | setOwn (i : Nat) (k e : E)
  | app (i : Nat) (e : E)
  | ext (i : Nat) (e : E)
  | expr (e : E)
  | ifs (c : E) (a b : Ss)
  | for' (t : Tg) (it : Iter) (b : Ss)
  | whl (c : E) (b : Ss)
  | ret (e : E) | retV (i : Nat) | retn
  | pass | brk | cnt
  | raise (c : Str) (es : Es)
  | frz (i : Nat) | never
inductive Ss where
  | nil | cons (s : S) (ss : Ss)
end
inductive Fl where
  | nx (env : Env') | rt (r : R) | bk (env : Env') | ct (env : Env')
/-- stored by what it is -/
def stoR (i : Nat) (env : Env') : R → Option Env'
  | .new l => some (env.set i (.own l))
  | .dat d => some (env.set i (.val d))
  | .bor _ => none
def forLoop (t : Tg) (f : Env' → Hh → Res Fl) : List D → Env' → Hh → Res Fl
  | [], env, h => .ok (.nx env) h
  | d :: ds, env, h => match t.bind env d with
    | none => .bad
    | some env1 => match f env1 h with
      | .ok (.nx env2) h2 => forLoop t f ds env2 h2
      | .ok (.ct env2) h2 => forLoop t f ds env2 h2
      | .ok (.bk env2) h2 => .ok (.nx env2) h2
      | .ok (.rt r) h2 => .ok (.rt r) h2
      | .ex x h2 => .ex x h2
      | .bad => .bad
def whlLoop (c : Env' → Hh → Res R) (f : Env' → Hh → Res Fl) : Nat → Env' → Hh → Res Fl
  | 0, _, _ => .bad
  | n + 1, env, h => match c env h with
    | .ok (.dat (.bl true)) h1 => match f env h1 with
      | .ok (.nx env2) h2 => whlLoop c f n env2 h2
      | .ok (.ct env2) h2 => whlLoop c f n env2 h2
      | .ok (.bk env2) h2 => .ok (.nx env2) h2
      | .ok (.rt r) h2 => .ok (.rt r) h2
      | .ex x h2 => .ex x h2
      | .bad => .bad
    | .ok (.dat (.bl false)) h1 => .ok (.nx env) h1
    | .ex x h1 => .ex x h1
    | _ => .bad
def whlMost : Nat := 2 ^ 40
mutual
def execS : S → Env' → Hh → Res Fl
  | .asg i e, env, h => (evalE C G e env h).bind fun x h1 => match x.fz with
    | some d => .ok (.nx (setV env i d)) h1
    | none => .bad
  | .own i e, env, h => (evalE C G e env h).bind fun x h1 => match x with
    | .new l => .ok (.nx (env.set i (.own l))) h1
    | _ => .bad
  | .any i e, env, h => (evalE C G e env h).bind fun x h1 => match x with
    | .new l => .ok (.nx (env.set i (.own l))) h1
    | .dat d => .ok (.nx (setV env i d)) h1
    | .bor _ => .bad
  | .par2 i j a b, env, h => (evalE C G a env h).bind fun x h1 => (evalE C G b env h1).bind fun y h2 => match (stoR i env x).bind fun e1 => stoR j e1 y with
    | some e2 => .ok (.nx e2) h2
    | none => .bad
  | .asgs is e, env, h => (evalE C G e env h).bind fun x h1 => match x with
    | .dat (.tup ds) => match setVs env is ds with
      | some env' => .ok (.nx env') h1
      | none => .bad
    | _ => .bad
  | .setL o k e, env, h => (evalE C G e env h).bind fun v h1 => match v.fz with
    | none => .bad
    | some d => (evalE C G o env h1).bind fun x h2 => (evalE C G k env h2).bind fun y h3 => match x, y with
      | .dat (.ref n), .dat (.int i) => match h3[n]? with
        | some (.lst l) => match ixN l.length i with
          | some j => .ok (.nx env) (h3.set n (.lst (l.set j d)))
          | none => .bad
        | _ => .bad
      | _, _ => .bad
  | .setD o k e, env, h => (evalE C G e env h).bind fun v h1 => match v.fz with
    | none => .bad
    | some d => (evalE C G o env h1).bind fun x h2 => (evalE C G k env h2).bind fun y h3 => match x, y with
      | .dat (.ref n), .dat kd => match h3[n]?, keyOf kd with
        | some (.dct l), some kk => if l.length < sizeLine then .ok (.nx env) (h3.set n (.dct (dPut l kk d))) else .bad
        | _, _ => .bad
      | _, _ => .bad
  | .setOwn i k e, env, h => (evalE C G e env h).bind fun v h1 => match v.fz with
    | none => .bad
    | some d => match env[i]? with
      | some (.own l) => (evalE C G k env h1).bind fun y h2 => match y with
        | .dat (.int z) => match ixN l.length z with
          | some j => .ok (.nx (env.set i (.own (l.set j d)))) h2
          | none => .bad
        | _ => .bad
      | _ => .bad
  | .app i e, env, h => match env[i]? with
    | some (.own l) => (evalE C G e env h).bind fun v h1 => match v.fz with
      | none => .bad
      | some d => if l.length < sizeLine then .ok (.nx (env.set i (.own (l ++ [d])))) h1 else .bad
    | _ => .bad
  | .ext i e, env, h => match env[i]? with
    | some (.own l) => (evalE C G e env h).bind fun v h1 => match lv h1 v with
      | some m => if l.length + m.length ≤ sizeLine then .ok (.nx (env.set i (.own (l ++ m)))) h1 else .bad
      | none => .bad
    | _ => .bad
  | .expr e, env, h => (evalE C G e env h).bind fun _ h1 => .ok (.nx env) h1
  | .ifs c a b, env, h => (evalE C G c env h).bind fun x h1 => match x with
    | .dat (.bl true) => execSs a env h1
    | .dat (.bl false) => execSs b env h1
    | _ => .bad
  | .for' t it b, env, h => (evalI C G it env h).bind fun ds h1 => forLoop t (fun env' h' => execSs b env' h') ds env h1
  | .whl c b, env, h => whlLoop (fun env' h' => evalE C G c env' h') (fun env' h' => execSs b env' h') whlMost env h
  | .ret e, env, h => (evalE C G e env h).bind fun x h1 => match x with
    | .bor _ => .bad
    | r => .ok (.rt r) h1
  | .retV i, env, h => match env[i]? with
    | some (.own l) => .ok (.rt (.new l)) h
    | _ => .bad
  | .retn, _, h => .ok (.rt (.dat .non)) h
  | .pass, env, h => .ok (.nx env) h
  | .brk, env, h => .ok (.bk env) h
  | .cnt, env, h => .ok (.ct env) h
  | .raise c es, env, h => (evalEs C G es env h).bind fun ds h1 => .ex ⟨c, ds⟩ h1
  | .frz i, env, h => match env[i]? with
    | some (.own l) => .ok (.nx (setV env i (.lst l))) h
    | _ => .bad
  | .never, _, _ => .bad
def execSs : Ss → Env' → Hh → Res Fl
  | .nil, env, h => .ok (.nx env) h
  | .cons s ss, env, h => match execS s env h with
    | .ok (.nx env') h' => execSs ss env' h'
    | r => r
end
end
/-- a def: how many parameters, how many names, its body -/
structure Fn where
  pars : Nat
  slots : Nat
  body : Ss
def Fn.env (f : Fn) (ds : List D) : Env' := ds.map .val ++ List.replicate (f.slots - f.pars) .un
abbrev Tab := Str → Option Fn
def runBody (C : Calls') (G : Str → Option D) (f : Fn) (ds : List D) (h : Hh) : Res R :=
  if ds.length = f.pars then
    match execSs C G f.body (f.env ds) h with
    | .ok (.rt r) h' => .ok r h'
    | .ok (.nx _) h' => .ok (.dat .non) h'
    | .ex x h' => .ex x h'
    | _ => .bad
  else .bad
/-- the defs, at most n calls within one another -/
def run (T : Tab) (G : Str → Option D) : Nat → Calls'
  | 0, _, _, _ => .bad
  | n + 1, f, ds, h => match T f with
    | some d => runBody (run T G n) G d ds h
    | none => .bad
end Mi
/-! Mi2: how the small language's data lie in the layer's heap. -/
namespace Mi
open PySem PySem.Spec PyProof.Rows L2

structure Cfg where
  H : Hp
  r : Nat → Addr
  F : Addr → Prop
  n : Nat
/-- a list of the written part, or one that is locked -/
def ArgL (K : PySem.W.Frag) (H : Hp) (a : Addr) (xs : List V) : Prop :=
  (∃ o, H a = some (.frz o (.lst xs))) ∨
    ∃ (o : Obj) (its : Array Value) (n : Nat), K.lookup a = some o ∧ o.cls = .type "list" ∧ o.dict = none ∧ o.data = .seq its n ∧ its.size ≤ sizeLine ∧ Vals xs its.toList
theorem ArgL.seq {K : PySem.W.Frag} {H : Hp} {a : Addr} {xs : List V} (h : ArgL K H a xs) : SqL K H a xs := by
  rcases h with ⟨o, h⟩ | h
  · exact .inl (.inr ⟨o, h⟩)
  · exact .inr h
section
variable (K : PySem.W.Frag) (c : Cfg)
mutual
def RelD : D → V → Prop
  | .non, v => v = .non
  | .bl b, v => v = .bl b
  | .int i, v => v = .int i
  | .str s, v => v = .str s
  | .tup l, v => ∃ a vs, v = .ref a ∧ SqT K c.H a vs ∧ RelDs l vs
  | .lst l, v => ∃ a vs, v = .ref a ∧ c.F a ∧ c.H a = some (.lst vs) ∧ RelDs l vs
  | .arg l, v => ∃ a vs, v = .ref a ∧ ArgL K c.H a vs ∧ RelDs l vs
  | .ref k, v => k < c.n ∧ v = .ref (c.r k)
def RelDs : List D → List V → Prop
  | [], vs => vs = []
  | d :: l, vs => ∃ v r, vs = v :: r ∧ RelD d v ∧ RelDs l r
end
def RelKv : List (Key × D) → List (Key × V) → Prop
  | [], vs => vs = []
  | (k, d) :: l, vs => ∃ v r, vs = (k, v) :: r ∧ RelD K c d v ∧ RelKv l r
def RelO : O → Option HO → Prop
  | .lst l, o => ∃ vs, o = some (.lst vs) ∧ RelDs K c l vs
  | .dct l, o => ∃ kvs, o = some (.dK kvs) ∧ RelKv K c l kvs
def OwnL (l : List D) (v : V) : Prop := ∃ a vs, v = .ref a ∧ c.H a = some (.lst vs) ∧ ¬ c.F a ∧ (∀ k, k < c.n → c.r k ≠ a) ∧ RelDs K c l vs
def RelR : R → V → Prop
  | .dat d, v => RelD K c d v
  | .new l, v => OwnL K c l v
  | .bor l, v => OwnL K c l v
end
/-- what is new was not there -/
def Fr (H : Hp) : R → V → Prop
  | .new _, .ref a => H a = none
  | _, _ => True
structure WF (K : PySem.W.Frag) (c : Cfg) (h : Hh) : Prop where
  sz : c.n = h.length
  obj : ∀ k o, h[k]? = some o → RelO K c o (c.H (c.r k))
  inj : ∀ j k, j < c.n → k < c.n → c.r j = c.r k → j = k
  nF : ∀ k, k < c.n → ¬ c.F (c.r k)
  fl : ∀ a, c.F a → ∃ vs, c.H a = some (.lst vs)
/-- what data lean on stays -/
structure Sta (c c' : Cfg) : Prop where
  len : c.n ≤ c'.n
  rho : ∀ k, k < c.n → c'.r k = c.r k
  fr : ∀ a, c.F a → c'.F a
  fls : ∀ a o, c.F a → c.H a = some o → c'.H a = some o
  tups : ∀ a xs, c.H a = some (.tup xs) → c'.H a = some (.tup xs)
  frzs : ∀ a o u, c.H a = some (.frz o u) → c'.H a = some (.frz o u)
structure Le (c c' : Cfg) : Prop extends Sta c c' where
  newF : ∀ a, c'.F a → c.F a ∨ c.H a = none
  newR : ∀ k, c.n ≤ k → k < c'.n → c.H (c'.r k) = none
  keep : ∀ a o, c.H a = some o → (∀ k, k < c.n → c.r k ≠ a) → c'.H a = some o
  stay : ∀ a, c.H a ≠ none → c'.H a ≠ none
theorem Sta.refl (c : Cfg) : Sta c c := ⟨Nat.le_refl _, fun _ _ => rfl, fun _ h => h, fun _ _ _ h => h, fun _ _ h => h, fun _ _ _ h => h⟩
theorem Le.refl (c : Cfg) : Le c c := ⟨Sta.refl c, fun _ h => .inl h, fun k h1 h2 => absurd (Nat.lt_of_lt_of_le h2 h1) (Nat.lt_irrefl _), fun _ _ h _ => h, fun _ h => h⟩
theorem Sta.trans {c c1 c2 : Cfg} (a : Sta c c1) (b : Sta c1 c2) : Sta c c2 :=
  ⟨Nat.le_trans a.len b.len, fun k hk => (b.rho k (Nat.lt_of_lt_of_le hk a.len)).trans (a.rho k hk), fun x h => b.fr x (a.fr x h), fun x o h1 h2 => b.fls x o (a.fr x h1) (a.fls x o h1 h2),
    fun x xs h => b.tups x xs (a.tups x xs h), fun x o u h => b.frzs x o u (a.frzs x o u h)⟩
theorem Le.trans {c c1 c2 : Cfg} (a : Le c c1) (b : Le c1 c2) : Le c c2 := by
  have back : ∀ x, c1.H x = none → c.H x = none := fun x h => Classical.byContradiction fun q => a.stay x q h
  refine ⟨a.toSta.trans b.toSta, fun x h => ?_, fun k h1 h2 => ?_, fun x o h1 h2 => ?_, fun x h => b.stay x (a.stay x h)⟩
  · rcases b.newF x h with q | q
    · exact a.newF x q
    · exact .inr (back x q)
  · by_cases hk : k < c1.n
    · rw [b.rho k hk]; exact a.newR k h1 hk
    · exact back _ (b.newR k (by omega) h2)
  · refine b.keep x o (a.keep x o h1 h2) fun k hk e => ?_
    by_cases hk2 : k < c.n
    · rw [a.rho k hk2] at e; exact h2 k hk2 e
    · have z := a.newR k (by omega) hk
      rw [e, h1] at z; cases z
section
variable {K : PySem.W.Frag} {c c' : Cfg}
theorem sqT_sta (st : Sta c c') {a : Addr} {xs : List V} (h : SqT K c.H a xs) : SqT K c'.H a xs := by
  rcases h with (h | ⟨o, h⟩) | h
  · exact .inl (.inl (st.tups _ _ h))
  · exact .inl (.inr ⟨o, st.frzs _ _ _ h⟩)
  · exact .inr h
theorem argL_sta (st : Sta c c') {a : Addr} {xs : List V} (h : ArgL K c.H a xs) : ArgL K c'.H a xs := by
  rcases h with ⟨o, h⟩ | h
  · exact .inl ⟨o, st.frzs _ _ _ h⟩
  · exact .inr h
mutual
theorem RelD.mono (st : Sta c c') : ∀ (d : D) (v : V), RelD K c d v → RelD K c' d v
  | .non, _, h => h
  | .bl _, _, h => h
  | .int _, _, h => h
  | .str _, _, h => h
  | .tup l, v, h => by
    unfold RelD at h ⊢
    obtain ⟨a, vs, e, h1, h2⟩ := h
    exact ⟨a, vs, e, sqT_sta st h1, RelDs.mono st l vs h2⟩
  | .lst l, v, h => by
    unfold RelD at h ⊢
    obtain ⟨a, vs, e, h0, h1, h2⟩ := h
    exact ⟨a, vs, e, st.fr _ h0, st.fls _ _ h0 h1, RelDs.mono st l vs h2⟩
  | .arg l, v, h => by
    unfold RelD at h ⊢
    obtain ⟨a, vs, e, h1, h2⟩ := h
    exact ⟨a, vs, e, argL_sta st h1, RelDs.mono st l vs h2⟩
  | .ref k, v, h => by
    unfold RelD at h ⊢
    exact ⟨Nat.lt_of_lt_of_le h.1 st.len, by rw [st.rho k h.1]; exact h.2⟩
theorem RelDs.mono (st : Sta c c') : ∀ (l : List D) (vs : List V), RelDs K c l vs → RelDs K c' l vs
  | [], _, h => h
  | d :: l, vs, h => by
    unfold RelDs at h ⊢
    obtain ⟨v, r, e, h1, h2⟩ := h
    exact ⟨v, r, e, RelD.mono st d v h1, RelDs.mono st l r h2⟩
end
theorem RelKv.mono (st : Sta c c') : ∀ (l : List (Key × D)) (vs : List (Key × V)), RelKv K c l vs → RelKv K c' l vs
  | [], _, h => h
  | (k, d) :: l, vs, h => by
    unfold RelKv at h ⊢
    obtain ⟨v, r, e, h1, h2⟩ := h
    exact ⟨v, r, e, RelD.mono st d v h1, RelKv.mono st l r h2⟩
theorem RelO.mono (st : Sta c c') : ∀ (o : O) (x : Option HO), RelO K c o x → RelO K c' o x
  | .lst l, _, ⟨vs, e, h⟩ => ⟨vs, e, RelDs.mono st l vs h⟩
  | .dct l, _, ⟨vs, e, h⟩ => ⟨vs, e, RelKv.mono st l vs h⟩
theorem OwnL.mono (le : Le c c') {l : List D} {v : V} (h : OwnL K c l v) : OwnL K c' l v := by
  obtain ⟨a, vs, e, h1, h2, h3, h4⟩ := h
  refine ⟨a, vs, e, le.keep a _ h1 h3, fun q => ?_, fun k hk q => ?_, RelDs.mono le.toSta _ _ h4⟩
  · rcases le.newF a q with z | z
    · exact h2 z
    · rw [h1] at z; cases z
  · by_cases hk2 : k < c.n
    · rw [le.rho k hk2] at q; exact h3 k hk2 q
    · have z := le.newR k (by omega) hk
      rw [q, h1] at z; cases z
theorem RelR.mono (le : Le c c') : ∀ {r : R} {v : V}, RelR K c r v → RelR K c' r v
  | .dat d, v, h => RelD.mono le.toSta d v h
  | .new _, _, h => OwnL.mono le h
  | .bor _, _, h => OwnL.mono le h
theorem Fr.mono (le : Le c c') {r : R} {v : V} (h : Fr c'.H r v) : Fr c.H r v := by
  cases r with
  | dat d => exact True.intro
  | bor d => exact True.intro
  | new l =>
    cases v with
    | ref a => exact Classical.byContradiction fun q => le.stay a q h
    | _ => exact True.intro
theorem RelDs.length : ∀ {l : List D} {vs : List V}, RelDs K c l vs → l.length = vs.length
  | [], vs, h => by unfold RelDs at h; subst h; rfl
  | d :: l, vs, h => by
    unfold RelDs at h
    obtain ⟨v, r, e, _, h2⟩ := h
    subst e
    simp [RelDs.length h2]
theorem RelDs.get : ∀ {l : List D} {vs : List V} {i : Nat} {d : D}, RelDs K c l vs → l[i]? = some d → ∃ v, vs[i]? = some v ∧ RelD K c d v
  | [], _, _, _, _, h => by simp at h
  | e :: l, vs, 0, d, h, h2 => by
    unfold RelDs at h
    obtain ⟨v, r, q, h1, _⟩ := h
    subst q
    simp at h2; subst h2
    exact ⟨v, rfl, h1⟩
  | e :: l, vs, i + 1, d, h, h2 => by
    unfold RelDs at h
    obtain ⟨v, r, q, _, h3⟩ := h
    subst q
    obtain ⟨u, h4, h5⟩ := RelDs.get (i := i) h3 (by simpa using h2)
    exact ⟨u, by simpa using h4, h5⟩
theorem RelDs.append : ∀ {l m : List D} {vs us : List V}, RelDs K c l vs → RelDs K c m us → RelDs K c (l ++ m) (vs ++ us)
  | [], m, vs, us, h, h2 => by unfold RelDs at h; subst h; exact h2
  | d :: l, m, vs, us, h, h2 => by
    unfold RelDs at h
    obtain ⟨v, r, e, h1, h3⟩ := h
    subst e
    show RelDs K c (d :: (l ++ m)) (v :: (r ++ us))
    unfold RelDs
    exact ⟨v, r ++ us, rfl, h1, RelDs.append h3 h2⟩
theorem RelDs.take : ∀ {l : List D} {vs : List V} (k : Nat), RelDs K c l vs → RelDs K c (l.take k) (vs.take k)
  | _, _, 0, h => by simp [RelDs]
  | [], vs, k + 1, h => by unfold RelDs at h; subst h; simp [RelDs]
  | d :: l, vs, k + 1, h => by
    unfold RelDs at h
    obtain ⟨v, r, e, h1, h3⟩ := h
    subst e
    show RelDs K c (d :: l.take k) (v :: r.take k)
    unfold RelDs
    exact ⟨v, _, rfl, h1, RelDs.take k h3⟩
theorem RelDs.drop : ∀ {l : List D} {vs : List V} (k : Nat), RelDs K c l vs → RelDs K c (l.drop k) (vs.drop k)
  | _, _, 0, h => by simpa using h
  | [], vs, k + 1, h => by unfold RelDs at h; subst h; simp [RelDs]
  | d :: l, vs, k + 1, h => by
    unfold RelDs at h
    obtain ⟨v, r, e, h1, h3⟩ := h
    subst e
    simpa using RelDs.drop k h3
theorem RelDs.set : ∀ {l : List D} {vs : List V} (k : Nat) {d : D} {v : V}, RelDs K c l vs → RelD K c d v → RelDs K c (l.set k d) (vs.set k v)
  | [], vs, k, d, v, h, hd => by unfold RelDs at h; subst h; simp [RelDs]
  | e :: l, vs, 0, d, v, h, hd => by
    unfold RelDs at h
    obtain ⟨u, r, q, h1, h3⟩ := h
    subst q
    show RelDs K c (d :: l) (v :: r)
    unfold RelDs
    exact ⟨v, r, rfl, hd, h3⟩
  | e :: l, vs, k + 1, d, v, h, hd => by
    unfold RelDs at h
    obtain ⟨u, r, q, h1, h3⟩ := h
    subst q
    show RelDs K c (e :: l.set k d) (u :: r.set k v)
    unfold RelDs
    exact ⟨u, _, rfl, h1, RelDs.set k h3 hd⟩
theorem RelDs.nil : RelDs K c [] [] := by unfold RelDs; rfl
theorem RelDs.one {d : D} {v : V} (h : RelD K c d v) : RelDs K c [d] [v] := by
  unfold RelDs
  exact ⟨v, [], rfl, h, RelDs.nil⟩
theorem RelDs.cons {d : D} {v : V} {l : List D} {vs : List V} (h : RelD K c d v) (t : RelDs K c l vs) : RelDs K c (d :: l) (v :: vs) := by
  unfold RelDs
  exact ⟨v, vs, rfl, h, t⟩
/-- a Le from its parts -/
theorem mkLe {h : Hh} (wf : WF K c h) (len : c.n ≤ c'.n) (rho : ∀ k, k < c.n → c'.r k = c.r k) (fr : ∀ a, c.F a → c'.F a) (newF : ∀ a, c'.F a → c.F a ∨ c.H a = none)
    (newR : ∀ k, c.n ≤ k → k < c'.n → c.H (c'.r k) = none) (keep : ∀ a o, c.H a = some o → (∀ k, k < c.n → c.r k ≠ a) → c'.H a = some o) (stay : ∀ a, c.H a ≠ none → c'.H a ≠ none) : Le c c' := by
  have at_ : ∀ k, k < c.n → (∃ vs, c.H (c.r k) = some (.lst vs)) ∨ ∃ kvs, c.H (c.r k) = some (.dK kvs) := fun k hk => by
    have hk' : k < h.length := by rw [← wf.sz]; exact hk
    have q := wf.obj k _ (List.getElem?_eq_getElem hk')
    cases e : h[k] with
    | lst l => rw [e] at q; obtain ⟨vs, q, _⟩ := q; exact .inl ⟨vs, q⟩
    | dct l => rw [e] at q; obtain ⟨vs, q, _⟩ := q; exact .inr ⟨vs, q⟩
  refine ⟨⟨len, rho, fr, fun a o h1 h2 => keep a o h2 fun k hk e => wf.nF k hk (by rw [e]; exact h1), fun a xs h1 => keep a _ h1 fun k hk e => ?_, fun a o u h1 => keep a _ h1 fun k hk e => ?_⟩, newF, newR, keep, stay⟩
  · rcases at_ k hk with ⟨vs, q⟩ | ⟨vs, q⟩ <;> (rw [e, h1] at q; cases q)
  · rcases at_ k hk with ⟨vs, q⟩ | ⟨vs, q⟩ <;> (rw [e, h1] at q; cases q)
theorem WF.some {h : Hh} (wf : WF K c h) {k : Nat} (hk : k < c.n) : c.H (c.r k) ≠ none := fun z => by
  have hk' : k < h.length := by rw [← wf.sz]; exact hk
  have q := wf.obj k _ (List.getElem?_eq_getElem hk')
  cases e : h[k] with
  | lst l => rw [e] at q; obtain ⟨vs, q, _⟩ := q; rw [z] at q; cases q
  | dct l => rw [e] at q; obtain ⟨vs, q, _⟩ := q; rw [z] at q; cases q
/-- a new object -/
def Cfg.put (c : Cfg) (p : Addr) (o : HO) : Cfg := { c with H := upd c.H p o }
theorem put_le {h : Hh} (wf : WF K c h) {p : Addr} (hp : c.H p = none) (o : HO) : Le c (c.put p o) := by
  have ne : ∀ {a}, c.H a ≠ none → a ≠ p := fun h e => h (by rw [e]; exact hp)
  refine mkLe wf (Nat.le_refl _) (fun _ _ => rfl) (fun _ h => h) (fun _ h => .inl h) (fun k h1 h2 => absurd (Nat.lt_of_lt_of_le h2 h1) (Nat.lt_irrefl _)) (fun a o' h1 _ => ?_) (fun a h1 => ?_)
  · show upd c.H p o a = _
    rw [upd_ne (ne (by rw [h1]; simp))]; exact h1
  · show upd c.H p o a ≠ _
    rw [upd_ne (ne h1)]; exact h1
theorem put_wf {h : Hh} (wf : WF K c h) {p : Addr} (hp : c.H p = none) (o : HO) : WF K (c.put p o) h := by
  have le := put_le wf hp o
  refine ⟨wf.sz, fun k ob hk => ?_, wf.inj, wf.nF, fun a ha => ?_⟩
  · have hk' : k < c.n := by rw [wf.sz]; exact (List.getElem?_eq_some_iff.mp hk).1
    have e : (c.put p o).H ((c.put p o).r k) = c.H (c.r k) := by
      show upd c.H p o (c.r k) = _
      exact upd_ne fun e => wf.some hk' (by rw [e]; exact hp)
    rw [e]
    exact RelO.mono le.toSta _ _ (wf.obj k ob hk)
  · obtain ⟨vs, q⟩ := wf.fl a ha
    exact ⟨vs, le.fls a _ ha q⟩
/-- a list just made is frozen -/
def Cfg.freeze (c : Cfg) (a : Addr) : Cfg := { c with F := fun b => c.F b ∨ b = a }
theorem freeze_le {c0 : Cfg} (le : Le c0 c) {a : Addr} (h0 : c0.H a = none) : Le c0 (c.freeze a) := by
  refine ⟨⟨le.len, le.rho, fun x h => .inl (le.fr x h), le.fls, le.tups, le.frzs⟩, fun x h => ?_, le.newR, le.keep, le.stay⟩
  rcases h with h | h
  · exact le.newF x h
  · rw [h]; exact .inr h0
theorem freeze_sta {a : Addr} : Sta c (c.freeze a) := ⟨Nat.le_refl _, fun _ _ => rfl, fun _ h => .inl h, fun _ _ _ h => h, fun _ _ h => h, fun _ _ _ h => h⟩
theorem freeze_wf {h : Hh} (wf : WF K c h) {a : Addr} {vs : List V} (h1 : c.H a = some (.lst vs)) (h3 : ∀ k, k < c.n → c.r k ≠ a) : WF K (c.freeze a) h := by
  refine ⟨wf.sz, fun k o hk => RelO.mono freeze_sta _ _ (wf.obj k o hk), wf.inj, fun k hk q => ?_, fun x hx => ?_⟩
  · rcases q with q | q
    · exact wf.nF k hk q
    · exact h3 k hk q
  · rcases hx with q | q
    · exact wf.fl x q
    · rw [q]; exact ⟨vs, h1⟩
/-- a list just made goes into the small heap -/
def Cfg.grow (c : Cfg) (a : Addr) : Cfg := { c with r := fun k => if k = c.n then a else c.r k, n := c.n + 1 }
theorem grow_r {a : Addr} {k : Nat} (hk : k < c.n) : (c.grow a).r k = c.r k := by
  show (if k = c.n then a else c.r k) = _
  rw [if_neg (by omega)]
theorem grow_n {a : Addr} : (c.grow a).r c.n = a := by
  show (if c.n = c.n then a else _) = _
  rw [if_pos rfl]
theorem grow_sta {a : Addr} : Sta c (c.grow a) := ⟨Nat.le_succ _, fun k hk => grow_r hk, fun _ h => h, fun _ _ _ h => h, fun _ _ h => h, fun _ _ _ h => h⟩
theorem grow_le {c0 : Cfg} (le : Le c0 c) {a : Addr} (h0 : c0.H a = none) : Le c0 (c.grow a) := by
  refine ⟨⟨Nat.le_succ_of_le le.len, fun k hk => (grow_r (Nat.lt_of_lt_of_le hk le.len)).trans (le.rho k hk), le.fr, le.fls, le.tups, le.frzs⟩, le.newF, fun k h1 h2 => ?_, le.keep, le.stay⟩
  have h2' : k < c.n + 1 := h2
  by_cases hk : k < c.n
  · rw [grow_r hk]; exact le.newR k h1 hk
  · have e : k = c.n := by omega
    rw [e, grow_n]; exact h0
theorem grow_wf {h : Hh} (wf : WF K c h) {a : Addr} {o : O} (h1 : RelO K c o (c.H a)) (h2 : ¬ c.F a) (h3 : ∀ k, k < c.n → c.r k ≠ a) : WF K (c.grow a) (h ++ [o]) := by
  refine ⟨by show c.n + 1 = _; rw [List.length_append, wf.sz]; rfl, fun k ob hk => ?_, fun j k hj hk e => ?_, fun k hk => ?_, wf.fl⟩
  · by_cases hk2 : k < c.n
    · rw [grow_r hk2]
      rw [List.getElem?_append_left (by rw [← wf.sz]; exact hk2)] at hk
      exact RelO.mono grow_sta _ _ (wf.obj k ob hk)
    · have e : k = h.length := by
        have := (List.getElem?_eq_some_iff.mp hk).1
        rw [List.length_append] at this
        simp at this
        have := wf.sz
        omega
      subst e
      rw [List.getElem?_append_right (Nat.le_refl _), Nat.sub_self] at hk
      simp at hk
      subst hk
      rw [← wf.sz, grow_n]
      exact RelO.mono grow_sta _ _ h1
  · have hj' : j < c.n + 1 := hj
    have hk' : k < c.n + 1 := hk
    by_cases a1 : j < c.n
    · by_cases a2 : k < c.n
      · rw [grow_r a1, grow_r a2] at e; exact wf.inj j k a1 a2 e
      · have : k = c.n := by omega
        subst this
        rw [grow_r a1, grow_n] at e
        exact absurd e (h3 j a1)
    · have : j = c.n := by omega
      subst this
      by_cases a2 : k < c.n
      · rw [grow_n, grow_r a2] at e
        exact absurd e.symm (h3 k a2)
      · omega
  · have hk' : k < c.n + 1 := hk
    by_cases a2 : k < c.n
    · rw [grow_r a2]; exact wf.nF k a2
    · have : k = c.n := by omega
      subst this
      rw [grow_n]; exact h2
/-- an owned list is written -/
theorem own_sta {a : Addr} {vs ws : List V} (h1 : c.H a = some (.lst vs)) (h2 : ¬ c.F a) : Sta c (c.put a (.lst ws)) := by
  refine ⟨Nat.le_refl _, fun _ _ => rfl, fun _ h => h, fun x o hF hx => ?_, fun x xs hx => ?_, fun x o u hx => ?_⟩
  · show upd c.H a _ x = _
    rw [upd_ne (fun e => h2 (by rw [← e]; exact hF))]; exact hx
  · show upd c.H a _ x = _
    rw [upd_ne (fun e => by rw [e, h1] at hx; cases hx)]; exact hx
  · show upd c.H a _ x = _
    rw [upd_ne (fun e => by rw [e, h1] at hx; cases hx)]; exact hx
theorem own_le {c0 : Cfg} (le : Le c0 c) {a : Addr} {vs ws : List V} (h0 : c0.H a = none) (h1 : c.H a = some (.lst vs)) (h2 : ¬ c.F a) : Le c0 (c.put a (.lst ws)) := by
  have st := own_sta (ws := ws) h1 h2
  refine ⟨le.toSta.trans st, le.newF, le.newR, fun x o hx hr => ?_, fun x hx => ?_⟩
  · show upd c.H a _ x = _
    rw [upd_ne (fun e => by rw [e, h0] at hx; cases hx)]
    exact le.keep x o hx hr
  · show upd c.H a _ x ≠ _
    by_cases e : x = a
    · rw [e, upd_same]; simp
    · rw [upd_ne e]; exact le.stay x hx
theorem own_wf {h : Hh} (wf : WF K c h) {a : Addr} {vs ws : List V} (h1 : c.H a = some (.lst vs)) (h2 : ¬ c.F a) (h3 : ∀ k, k < c.n → c.r k ≠ a) : WF K (c.put a (.lst ws)) h := by
  have st := own_sta (ws := ws) h1 h2
  refine ⟨wf.sz, fun k o hk => ?_, wf.inj, wf.nF, fun x hx => ?_⟩
  · have hk' : k < c.n := by rw [wf.sz]; exact (List.getElem?_eq_some_iff.mp hk).1
    have e : (c.put a (.lst ws)).H ((c.put a (.lst ws)).r k) = c.H (c.r k) := upd_ne (h3 k hk')
    rw [e]
    exact RelO.mono st _ _ (wf.obj k o hk)
  · obtain ⟨us, q⟩ := wf.fl x hx
    exact ⟨us, st.fls x _ hx q⟩
/-- an object of the small heap is written -/
theorem ref_sta {h : Hh} (wf : WF K c h) {k : Nat} (hk : k < c.n) (ho : HO) : Sta c (c.put (c.r k) ho) := by
  have at_ : ∀ xs, c.H (c.r k) ≠ some (.tup xs) := fun xs z => by
    have hk' : k < h.length := by rw [← wf.sz]; exact hk
    have q := wf.obj k _ (List.getElem?_eq_getElem hk')
    cases e : h[k] with
    | lst l => rw [e] at q; obtain ⟨vs, q, _⟩ := q; rw [z] at q; cases q
    | dct l => rw [e] at q; obtain ⟨vs, q, _⟩ := q; rw [z] at q; cases q
  have at2 : ∀ o u, c.H (c.r k) ≠ some (.frz o u) := fun o u z => by
    have hk' : k < h.length := by rw [← wf.sz]; exact hk
    have q := wf.obj k _ (List.getElem?_eq_getElem hk')
    cases e : h[k] with
    | lst l => rw [e] at q; obtain ⟨vs, q, _⟩ := q; rw [z] at q; cases q
    | dct l => rw [e] at q; obtain ⟨vs, q, _⟩ := q; rw [z] at q; cases q
  refine ⟨Nat.le_refl _, fun _ _ => rfl, fun _ h => h, fun x o hF hx => ?_, fun x xs hx => ?_, fun x o u hx => ?_⟩
  · show upd c.H _ _ x = _
    rw [upd_ne (fun e => wf.nF k hk (by rw [← e]; exact hF))]; exact hx
  · show upd c.H _ _ x = _
    rw [upd_ne (fun e => at_ xs (by rw [← e]; exact hx))]; exact hx
  · show upd c.H _ _ x = _
    rw [upd_ne (fun e => at2 o u (by rw [← e]; exact hx))]; exact hx
theorem ref_le {h : Hh} (wf : WF K c h) {k : Nat} (hk : k < c.n) (ho : HO) : Le c (c.put (c.r k) ho) := by
  refine ⟨ref_sta wf hk ho, fun _ h => .inl h, fun j h1 h2 => absurd (Nat.lt_of_lt_of_le h2 h1) (Nat.lt_irrefl _), fun a o h1 h2 => ?_, fun a h1 => ?_⟩
  · show upd c.H _ _ a = _
    rw [upd_ne (fun e => h2 k hk e.symm)]; exact h1
  · show upd c.H _ _ a ≠ _
    by_cases e : a = c.r k
    · rw [e, upd_same]; simp
    · rw [upd_ne e]; exact h1
theorem ref_wf {h : Hh} (wf : WF K c h) {k : Nat} (hk : k < c.n) {ho : HO} {o : O} (q : RelO K c o (some ho)) : WF K (c.put (c.r k) ho) (h.set k o) := by
  have st := ref_sta wf hk ho
  refine ⟨by rw [List.length_set]; exact wf.sz, fun j ob hj => ?_, wf.inj, wf.nF, fun x hx => ?_⟩
  · have hj' : j < c.n := by
      have := (List.getElem?_eq_some_iff.mp hj).1
      rw [List.length_set] at this
      rw [wf.sz]; exact this
    by_cases e : j = k
    · subst e
      rw [List.getElem?_set_self (by rw [← wf.sz]; exact hk)] at hj
      cases hj
      have e2 : (c.put (c.r j) ho).H ((c.put (c.r j) ho).r j) = some ho := upd_same
      rw [e2]
      exact RelO.mono st _ _ q
    · rw [List.getElem?_set_ne (Ne.symm e)] at hj
      have e2 : (c.put (c.r k) ho).H ((c.put (c.r k) ho).r j) = c.H (c.r j) := upd_ne fun z => e (wf.inj j k hj' hk z)
      rw [e2]
      exact RelO.mono st _ _ (wf.obj j ob hj)
  · obtain ⟨us, q⟩ := wf.fl x hx
    exact ⟨us, st.fls x _ hx q⟩
end

/-! ### names -/
def RelS (K : PySem.W.Frag) (He : Hp) (c : Cfg) : Slot → Option V → Prop
  | .un, _ => True
  | .val d, x => ∃ v, x = some v ∧ RelD K c d v
  | .own l, x => ∃ a, x = some (.ref a) ∧ OwnL K c l (.ref a) ∧ He a = none
structure RelEnv (K : PySem.W.Frag) (He : Hp) (c : Cfg) (env : Env') (σ : L2.St) : Prop where
  len : env.length = σ.length
  sl : ∀ (i : Nat) (s : Slot), env[i]? = some s → ∃ x : Option V, σ[i]? = some x ∧ RelS K He c s x
  ap : ∀ (i j : Nat) (l m : List D) (a : Addr), env[i]? = some (.own l) → env[j]? = some (.own m) → σ[i]? = some (some (.ref a)) → σ[j]? = some (some (.ref a)) → i = j
section
variable {K : PySem.W.Frag} {c c' : Cfg} {He : Hp} {env : Env'} {σ : L2.St}
theorem RelS.mono (le : Le c c') : ∀ {s : Slot} {x : Option V}, RelS K He c s x → RelS K He c' s x
  | .un, _, _ => True.intro
  | .val d, _, ⟨v, e, h⟩ => ⟨v, e, RelD.mono le.toSta d v h⟩
  | .own l, _, ⟨a, e, h, z⟩ => ⟨a, e, OwnL.mono le h, z⟩
theorem RelEnv.mono (le : Le c c') (h : RelEnv K He c env σ) : RelEnv K He c' env σ :=
  ⟨h.len, fun i s e => let ⟨x, e1, e2⟩ := h.sl i s e; ⟨x, e1, RelS.mono le e2⟩, h.ap⟩
/-- a slot gets data -/
theorem RelEnv.put (h : RelEnv K He c env σ) (i : Nat) {d : D} {v : V} (r : RelD K c d v) : RelEnv K He c (setV env i d) (σ.set i (some v)) := by
  refine ⟨by unfold setV; simp [h.len], fun j s e => ?_, fun j k l m a e1 e2 f1 f2 => ?_⟩
  · unfold setV at e
    by_cases hj : j = i
    · subst hj
      have hl : j < env.length := by
        have := (List.getElem?_eq_some_iff.mp e).1
        simpa using this
      rw [List.getElem?_set_self hl] at e
      cases e
      exact ⟨some v, List.getElem?_set_self (by rw [← h.len]; exact hl), v, rfl, r⟩
    · rw [List.getElem?_set_ne (Ne.symm hj)] at e
      rw [List.getElem?_set_ne (Ne.symm hj)]
      exact h.sl j s e
  · unfold setV at e1 e2
    have nj : j ≠ i := fun z => by
      subst z
      have hl : j < env.length := by
        have := (List.getElem?_eq_some_iff.mp e1).1
        simpa using this
      rw [List.getElem?_set_self hl] at e1; cases e1
    have nk : k ≠ i := fun z => by
      subst z
      have hl : k < env.length := by
        have := (List.getElem?_eq_some_iff.mp e2).1
        simpa using this
      rw [List.getElem?_set_self hl] at e2; cases e2
    rw [List.getElem?_set_ne (Ne.symm nj)] at e1 f1
    rw [List.getElem?_set_ne (Ne.symm nk)] at e2 f2
    exact h.ap j k l m a e1 e2 f1 f2
/-- a slot gets a list that nobody has -/
theorem RelEnv.putOwn (h : RelEnv K He c env σ) (i : Nat) {l : List D} {a : Addr} (r : OwnL K c l (.ref a)) (hz : He a = none) (hn : ∀ j m, j ≠ i → env[j]? = some (.own m) → σ[j]? ≠ some (some (.ref a))) :
    RelEnv K He c (env.set i (.own l)) (σ.set i (some (.ref a))) := by
  have at_ : ∀ {j : Nat} {s : Slot}, (env.set i (.own l))[j]? = some s → (j = i ∧ s = .own l ∧ i < env.length) ∨ (j ≠ i ∧ env[j]? = some s) := fun {j s} e => by
    by_cases hj : j = i
    · subst hj
      have hl : j < env.length := by
        have := (List.getElem?_eq_some_iff.mp e).1
        simpa using this
      rw [List.getElem?_set_self hl] at e
      cases e
      exact .inl ⟨rfl, rfl, hl⟩
    · rw [List.getElem?_set_ne (Ne.symm hj)] at e
      exact .inr ⟨hj, e⟩
  refine ⟨by simp [h.len], fun j s e => ?_, fun j k l' m b e1 e2 f1 f2 => ?_⟩
  · rcases at_ e with ⟨rfl, rfl, hl⟩ | ⟨hj, e⟩
    · exact ⟨some (.ref a), List.getElem?_set_self (by rw [← h.len]; exact hl), a, rfl, r, hz⟩
    · rw [List.getElem?_set_ne (Ne.symm hj)]
      exact h.sl j s e
  · rcases at_ e1 with ⟨q1, _, hl⟩ | ⟨hj, g1⟩
    · rcases at_ e2 with ⟨q2, _, _⟩ | ⟨hk, g2⟩
      · rw [q1, q2]
      · rw [q1, List.getElem?_set_self (by rw [← h.len]; exact hl)] at f1
        rw [List.getElem?_set_ne (Ne.symm hk)] at f2
        cases f1
        exact absurd f2 (hn k m hk g2)
    · rcases at_ e2 with ⟨q2, _, hl⟩ | ⟨hk, g2⟩
      · rw [q2, List.getElem?_set_self (by rw [← h.len]; exact hl)] at f2
        rw [List.getElem?_set_ne (Ne.symm hj)] at f1
        cases f2
        exact absurd f1 (hn j l' hj g1)
      · rw [List.getElem?_set_ne (Ne.symm hj)] at f1
        rw [List.getElem?_set_ne (Ne.symm hk)] at f2
        exact h.ap j k l' m b g1 g2 f1 f2
theorem RelEnv.val (h : RelEnv K He c env σ) {i : Nat} {d : D} (e : env[i]? = some (.val d)) : ∃ v, σ[i]? = some (some v) ∧ RelD K c d v := by
  obtain ⟨x, e1, v, e2, r⟩ := h.sl i _ e
  exact ⟨v, by rw [e1, e2], r⟩
theorem RelEnv.own (h : RelEnv K He c env σ) {i : Nat} {l : List D} (e : env[i]? = some (.own l)) : ∃ a, σ[i]? = some (some (.ref a)) ∧ OwnL K c l (.ref a) ∧ He a = none := by
  obtain ⟨x, e1, a, e2, r, z⟩ := h.sl i _ e
  exact ⟨a, by rw [e1, e2], r, z⟩
/-- the owned list of a slot is written -/
theorem RelEnv.write (h : RelEnv K He c env σ) {i : Nat} {l m : List D} {a : Addr} {vs ws : List V} (e : env[i]? = some (.own l)) (ea : σ[i]? = some (some (.ref a))) (h1 : c.H a = some (.lst vs)) (h2 : ¬ c.F a)
    (h3 : ∀ k, k < c.n → c.r k ≠ a) (hz : He a = none) (r : RelDs K (c.put a (.lst ws)) m ws) : RelEnv K He (c.put a (.lst ws)) (env.set i (.own m)) σ := by
  have st := own_sta (ws := ws) h1 h2
  have hl : i < env.length := (List.getElem?_eq_some_iff.mp e).1
  refine ⟨by simp [h.len], fun j s ej => ?_, fun j k l' m' b e1 e2 f1 f2 => ?_⟩
  · by_cases hj : j = i
    · subst hj
      rw [List.getElem?_set_self hl] at ej
      cases ej
      exact ⟨_, ea, a, rfl, ⟨a, ws, rfl, upd_same, h2, h3, r⟩, hz⟩
    · rw [List.getElem?_set_ne (Ne.symm hj)] at ej
      obtain ⟨x, e1, e2⟩ := h.sl j s ej
      refine ⟨x, e1, ?_⟩
      cases s with
      | un => exact True.intro
      | val d => obtain ⟨v, q1, q2⟩ := e2; exact ⟨v, q1, RelD.mono st d v q2⟩
      | own l' =>
        obtain ⟨b, q1, ⟨b', us, q2, q3, q4, q5, q6⟩, q7⟩ := e2
        cases q2
        have nb : b ≠ a := fun z => by
          subst z
          exact hj (h.ap j i l' l b ej e (by rw [e1, q1]) ea)
        exact ⟨b, q1, ⟨b, us, rfl, by show upd c.H a _ b = _; rw [upd_ne nb]; exact q3, q4, q5, RelDs.mono st _ _ q6⟩, q7⟩
  · have back : ∀ {j : Nat} {l' : List D}, (env.set i (.own m))[j]? = some (.own l') → ∃ l'', env[j]? = some (.own l'') := fun {j l'} ej => by
      by_cases hj : j = i
      · subst hj; exact ⟨l, e⟩
      · rw [List.getElem?_set_ne (Ne.symm hj)] at ej; exact ⟨l', ej⟩
    obtain ⟨_, g1⟩ := back e1
    obtain ⟨_, g2⟩ := back e2
    exact h.ap j k _ _ b g1 g2 f1 f2
theorem wipeE_length (env : Env') : ∀ vs : List Nat, (wipeE env vs).length = env.length
  | [] => rfl
  | v :: vs => by unfold wipeE; rw [List.length_set, wipeE_length env vs]
theorem wipeE_some {i : Nat} {s : Slot} : ∀ {vs : List Nat}, (wipeE env vs)[i]? = some s → s = .un ∨ (env[i]? = some s ∧ i ∉ vs)
  | [], h => .inr ⟨h, by simp⟩
  | v :: vs, h => by
    unfold wipeE at h
    by_cases hi : i = v
    · subst hi
      by_cases hv : i < (wipeE env vs).length
      · rw [List.getElem?_set_self hv] at h; cases h; exact .inl rfl
      · rw [List.getElem?_eq_none (by simpa using hv)] at h; cases h
    · rw [List.getElem?_set_ne (Ne.symm hi)] at h
      rcases wipeE_some h with h | ⟨h1, h2⟩
      · exact .inl h
      · exact .inr ⟨h1, by simp only [List.mem_cons, not_or]; exact ⟨hi, h2⟩⟩
theorem wipe_at {σ : L2.St} {i : Nat} : ∀ {vs : List Nat}, i ∉ vs → (wipe σ vs)[i]? = σ[i]?
  | [], _ => rfl
  | v :: vs, h => by
    simp only [List.mem_cons, not_or] at h
    unfold wipe
    rw [List.getElem?_set_ne (Ne.symm h.1)]
    exact wipe_at h.2
theorem RelEnv.wipe (h : RelEnv K He c env σ) (vs : List Nat) : RelEnv K He c (wipeE env vs) (wipe σ vs) := by
  refine ⟨by rw [wipeE_length, wipe_length]; exact h.len, fun i s e => ?_, fun i j l m a e1 e2 f1 f2 => ?_⟩
  · rcases wipeE_some e with rfl | ⟨e', hi⟩
    · have hl : i < (L2.wipe σ vs).length := by
        have := (List.getElem?_eq_some_iff.mp e).1
        rw [wipeE_length] at this
        rw [wipe_length, ← h.len]; exact this
      exact ⟨_, List.getElem?_eq_getElem hl, True.intro⟩
    · obtain ⟨x, e1, e2⟩ := h.sl i s e'
      exact ⟨x, by rw [wipe_at hi]; exact e1, e2⟩
  · rcases wipeE_some e1 with q | ⟨e1, hi⟩
    · cases q
    · rcases wipeE_some e2 with q | ⟨e2, hj⟩
      · cases q
      · rw [wipe_at hi] at f1
        rw [wipe_at hj] at f2
        exact h.ap i j l m a e1 e2 f1 f2
end

/-! ### what an answer must bring -/
abbrev EWish := Exc → Cfg → Hh → Prop
def Post {α β : Type} (K : PySem.W.Frag) (EW : EWish) (c : Cfg) (Rl : Cfg → α → β → Prop) (Q : β → Hp → Prop) : Res α → Prop
  | .bad => False
  | .ok a h' => ∀ c' v, Le c c' → WF K c' h' → Rl c' a v → Q v c'.H
  | .ex x h' => ∀ c', Le c c' → WF K c' h' → EW x c' h'
section
variable {K : PySem.W.Frag} {EW : EWish} {c c1 : Cfg} {α β γ δ : Type} {Rl : Cfg → α → β → Prop} {Q : β → Hp → Prop}
theorem Post.lift {Rl' : Cfg → α → β → Prop} {res : Res α} (le : Le c c1) (hr : ∀ c' a v, Rl' c' a v → Rl c' a v) (p : Post K EW c Rl Q res) : Post K EW c1 Rl' Q res := by
  cases res with
  | bad => exact p
  | ok a h => exact fun c' v l w r => p c' v (le.trans l) w (hr _ _ _ r)
  | ex x h => exact fun c' l w => p c' (le.trans l) w
theorem Post.bind {res : Res γ} {f : γ → Hh → Res α} {Rl1 : Cfg → γ → δ → Prop} {Q1 : δ → Hp → Prop} (p : Post K EW c Rl Q (res.bind f))
    (k : ∀ a h1 c1 v1, Le c c1 → WF K c1 h1 → Rl1 c1 a v1 → Post K EW c Rl Q (f a h1) → Q1 v1 c1.H) : Post K EW c Rl1 Q1 res := by
  cases res with
  | bad => exact p
  | ok a h => exact fun c1 v l w r => k a h c1 v l w r p
  | ex x h => exact p
end
section
variable {K : PySem.W.Frag} {EW : EWish} {c c0 : Cfg} {α β γ δ : Type} {Rl : Cfg → α → β → Prop} {Q : β → Hp → Prop}
theorem Post.bind2 {res : Res γ} {f : γ → Hh → Res α} {Rl1 : Cfg → γ → δ → Prop} {Q1 : δ → Hp → Prop} (p : Post K EW c Rl Q (res.bind f)) (le : Le c c0)
    (k : ∀ a h1 c1 v1, Le c0 c1 → WF K c1 h1 → Rl1 c1 a v1 → Post K EW c Rl Q (f a h1) → Q1 v1 c1.H) : Post K EW c0 Rl1 Q1 res := by
  cases res with
  | bad => exact p
  | ok a h => exact fun c1 v l w r => k a h c1 v l w r p
  | ex x h => exact fun c1 l w => p c1 (le.trans l) w
end
/-- an expression's relation: what is made is new since c0 -/
def RE (K : PySem.W.Frag) (c0 : Cfg) : Cfg → R → V → Prop := fun c r v => RelR K c r v ∧ Fr c0.H r v
abbrev PostE (K : PySem.W.Frag) (EW : EWish) (c : Cfg) (Q : VK) (res : Res R) : Prop := Post K EW c (RE K c) Q res
theorem PostE.lift {K : PySem.W.Frag} {EW : EWish} {c c1 : Cfg} {Q : VK} {res : Res R} (le : Le c c1) (p : PostE K EW c Q res) : PostE K EW c1 Q res :=
  Post.lift le (fun _ _ _ h => ⟨h.1, Fr.mono le h.2⟩) p
end Mi
/-! Mi3: the machine does what the evaluator says: expressions. -/
namespace Mi
open PySem PySem.Spec PyProof.Rows L2

/-- the names of the top that hold data -/
def Glob (K : PySem.W.Frag) (mg : Str → Option Value) (G : Str → Option D) : Prop :=
  ∀ x d, G x = some d → ∃ v u, mg x = some u ∧ RelV v u ∧ ∀ c, RelD K c d v
section
variable (K : PySem.W.Frag) (EW : EWish) (C : Calls') (G : Str → Option D)
def tE (e : E) : TE := fun σ H Q => ∃ (He : Hp) (c : Cfg) (h : Hh) (env : Env'), c.H = H ∧ WF K c h ∧ RelEnv K He c env σ ∧ PostE K EW c Q (evalE C G e env h)
def tT (e : E) : TT := tB (tE K EW C G e)
def RA (K : PySem.W.Frag) : Cfg → List D → List V → Prop := fun c ds vs => RelDs K c ds vs
def tA (es : Es) : TA := fun σ H Q => ∃ (He : Hp) (c : Cfg) (h : Hh) (env : Env'), c.H = H ∧ WF K c h ∧ RelEnv K He c env σ ∧ Post K EW c (RA K) Q (evalEs C G es env h)
def RO : Cfg → Option Int → Option Int → Prop := fun _ x y => x = y
def tO (e : Oe) : TO := fun σ H Q => ∃ (He : Hp) (c : Cfg) (h : Hh) (env : Env'), c.H = H ∧ WF K c h ∧ RelEnv K He c env σ ∧ Post K EW c RO Q (evalO C G e env h)
end
theorem _root_.L2.PE.imp {X : Cx} {e : Expr} {t t' : TE} (h : PE X e t) (k : ∀ σ H Q, t' σ H Q → t σ H Q) : PE X e t' := ⟨fun pins s σ H Q I w => h.run pins s σ H Q I (k σ H Q w)⟩
theorem _root_.L2.PT.imp {X : Cx} {e : Expr} {t t' : TT} (h : PT X e t) (k : ∀ σ H Q, t' σ H Q → t σ H Q) : PT X e t' := ⟨fun pins s σ H Q I w => h.run pins s σ H Q I (k σ H Q w)⟩
theorem _root_.L2.PW.imp {X : Cx} {e : Expr} {t t' : TT} (h : PW X e t) (k : ∀ σ H Q, t' σ H Q → t σ H Q) : PW X e t' := ⟨fun wh pins s σ H Q I w => h.run wh pins s σ H Q I (k σ H Q w)⟩
theorem _root_.L2.PA.imp {X : Cx} {es : List Expr} {t t' : TA} (h : PA X es t) (k : ∀ σ H Q, t' σ H Q → t σ H Q) : PA X es t' := ⟨fun pos pins s σ H Q I w => h.run pos pins s σ H Q I (k σ H Q w)⟩
theorem _root_.L2.PO.imp {X : Cx} {e : Option Expr} {t t' : TO} (h : PO X e t) (k : ∀ σ H Q, t' σ H Q → t σ H Q) : PO X e t' := ⟨fun pins s σ H Q I w => h.run pins s σ H Q I (k σ H Q w)⟩
theorem _root_.L2.PI.imp {X : Cx} {tg e : Expr} {t t' : TI} (h : PI X tg e t) (k : ∀ σ H Q, t' σ H Q → t σ H Q) : PI X tg e t' := ⟨fun pins s σ H Q I w => h.run pins s σ H Q I (k σ H Q w)⟩
theorem _root_.L2.PS.imp {X : Cx} {e : Stmt} {t t' : TS} (h : PS X e t) (k : ∀ D σ H, t' D σ H → t D σ H) : PS X e t' := ⟨fun pins s σ H D I w => h.run pins s σ H D I (k D σ H w)⟩
theorem _root_.L2.PSs.imp {X : Cx} {e : List Stmt} {t t' : TS} (h : PSs X e t) (k : ∀ D σ H, t' D σ H → t D σ H) : PSs X e t' := ⟨fun pins s σ H D I w => h.run pins s σ H D I (k D σ H w)⟩

section
variable {K : PySem.W.Frag} {EW : EWish} {c : Cfg} {h : Hh} {Q : VK}
/-- nothing changed: the answer is data that is there -/
theorem PostE.here {r : R} {v : V} (wf : WF K c h) (p : PostE K EW c Q (.ok r h)) (hr : RelR K c r v) (hf : Fr c.H r v := by exact True.intro) : Q v c.H := p c v (Le.refl c) wf ⟨hr, hf⟩
theorem PostE.newL {l : List D} {vs : List V} {p : Addr} (wf : WF K c h) (hp : c.H p = none) (hr : RelDs K c l vs) (q : PostE K EW c Q (.ok (.new l) h)) : Q (.ref p) (upd c.H p (.lst vs)) := by
  have le := put_le wf hp (.lst vs)
  refine q (c.put p (.lst vs)) (.ref p) le (put_wf wf hp _) ⟨⟨p, vs, rfl, upd_same, fun z => ?_, fun k hk z => ?_, RelDs.mono le.toSta _ _ hr⟩, hp⟩
  · obtain ⟨us, e⟩ := wf.fl p z
    rw [hp] at e; cases e
  · exact wf.some hk (by rw [← hp, ← z]; rfl)
theorem PostE.newT {l : List D} {vs : List V} {p : Addr} (wf : WF K c h) (hp : c.H p = none) (hr : RelDs K c l vs) (q : PostE K EW c Q (.ok (.dat (.tup l)) h)) : Q (.ref p) (upd c.H p (.tup vs)) := by
  have le := put_le wf hp (.tup vs)
  refine q (c.put p (.tup vs)) (.ref p) le (put_wf wf hp _) ⟨?_, True.intro⟩
  show RelD K _ (.tup l) _
  unfold RelD
  exact ⟨p, vs, rfl, .inl (.inl upd_same), RelDs.mono le.toSta _ _ hr⟩
/-- an answer is frozen where it is kept -/
theorem freeze_ans {c0 : Cfg} {r : R} {d : D} {v : V} (le : Le c0 c) (wf : WF K c h) (hr : RE K c0 c r v) (e : r.fz = some d) : ∃ c', c'.H = c.H ∧ Le c0 c' ∧ Sta c c' ∧ WF K c' h ∧ RelD K c' d v := by
  obtain ⟨h1, h2⟩ := hr
  cases r with
  | dat d' => cases e; exact ⟨c, rfl, le, Sta.refl c, wf, h1⟩
  | bor l => cases e
  | new l =>
    cases e
    obtain ⟨a, vs, rfl, g1, g2, g3, g4⟩ := h1
    refine ⟨c.freeze a, rfl, freeze_le le h2, freeze_sta, freeze_wf wf g1 g3, ?_⟩
    unfold RelD
    exact ⟨a, vs, rfl, .inr rfl, g1, RelDs.mono freeze_sta _ _ g4⟩
/-- seen as a list -/
theorem lv_rel {r : R} {l : List D} {v : V} (wf : WF K c h) (hr : RelR K c r v) (e : lv h r = some l) : ∃ a vs, v = .ref a ∧ c.H a = some (.lst vs) ∧ RelDs K c l vs := by
  unfold lv at e
  split at e
  · cases e
    have hr' : RelD K c (.lst l) v := hr
    unfold RelD at hr'
    obtain ⟨a, vs, e1, _, e2, e3⟩ := hr'
    exact ⟨a, vs, e1, e2, e3⟩
  · cases e
    obtain ⟨a, vs, e1, e2, _, _, e3⟩ := hr
    exact ⟨a, vs, e1, e2, e3⟩
  · cases e
    obtain ⟨a, vs, e1, e2, _, _, e3⟩ := hr
    exact ⟨a, vs, e1, e2, e3⟩
  · rename_i n
    split at e
    · rename_i l' hl
      cases e
      have hr' : RelD K c (.ref n) v := hr
      unfold RelD at hr'
      obtain ⟨vs, e1, e2⟩ := wf.obj n _ hl
      exact ⟨_, vs, hr'.2, e1, e2⟩
    · cases e
  · cases e
/-- seen as a list or a tuple -/
theorem sv_rel {r : R} {l : List D} {v : V} (wf : WF K c h) (hr : RelR K c r v) (e : sv h r = some l) : ∃ a vs, v = .ref a ∧ (SqL K c.H a vs ∨ SqT K c.H a vs) ∧ RelDs K c l vs := by
  unfold sv at e
  split at e
  · cases e
    have hr' : RelD K c (.tup l) v := hr
    unfold RelD at hr'
    obtain ⟨a, vs, e1, e2, e3⟩ := hr'
    exact ⟨a, vs, e1, .inr e2, e3⟩
  · cases e
    have hr' : RelD K c (.arg l) v := hr
    unfold RelD at hr'
    obtain ⟨a, vs, e1, e2, e3⟩ := hr'
    exact ⟨a, vs, e1, .inl e2.seq, e3⟩
  · obtain ⟨a, vs, e1, e2, e3⟩ := lv_rel wf hr e
    exact ⟨a, vs, e1, .inl (.inl (.inl e2)), e3⟩
end

section
variable {X : Cx} {EW : EWish} {C : Calls'} {G : Str → Option D}
/-! ### leaves -/
theorem sim_var (i : Nat) {x : Str} {pos : Pos} (hN : X.N[i]? = some x := by rfl) (hv : Vis X.env.scope x := by first | exact Or.inl rfl | exact Or.inr (Or.inl rfl) | exact Or.inr (Or.inr rfl)) (hd : (x == ("__debug__" : Str)) = false := by decide)
    (hcd : (x == ("__classdict__" : Str)) = false := by decide) : PE X (.Name x pos) (tE X.K EW C G (.var i)) := by
  refine (pe_var hN hv hd hcd).imp fun σ H Q w => ?_
  obtain ⟨He, c, h, env, rfl, wf, re, p⟩ := w
  unfold evalE at p
  split at p
  · rename_i d e
    obtain ⟨v, e1, r⟩ := re.val e
    exact ⟨v, e1, PostE.here wf p r⟩
  · rename_i l e
    obtain ⟨a, e1, r, _⟩ := re.own e
    exact ⟨_, e1, PostE.here wf p r⟩
  · exact False.elim p
theorem con_red {d : D} {v : V} (r : ∀ c, RelD X.K c d v) : ∀ σ H Q, tE X.K EW C G (.con d) σ H Q → tC v σ H Q := fun σ H Q w => by
  obtain ⟨He, c, h, env, rfl, wf, re, p⟩ := w
  unfold evalE at p
  exact PostE.here wf p (r c)
theorem sim_int {i j pos} : PE X (.Constant (.int i) j pos) (tE X.K EW C G (.con (.int i))) := pe_int.imp (con_red fun _ => by unfold RelD; rfl)
theorem sim_bl {i j pos} : PE X (.Constant (.bool i) j pos) (tE X.K EW C G (.con (.bl i))) := pe_bl.imp (con_red fun _ => by unfold RelD; rfl)
theorem sim_str {i j pos} : PE X (.Constant (.str i) j pos) (tE X.K EW C G (.con (.str i))) := pe_str.imp (con_red fun _ => by unfold RelD; rfl)
theorem sim_non {j pos} : PE X (.Constant .none j pos) (tE X.K EW C G (.con .non)) := pe_non.imp (con_red fun _ => by unfold RelD; rfl)
theorem sim_glo (gl : Glob X.K X.mg G) {x : Str} {pos : Pos} (hg : Gl X x := by rfl) (hd : (x == ("__debug__" : Str)) = false := by decide) : PE X (.Name x pos) (tE X.K EW C G (.glo x)) := by
  cases e : G x with
  | none =>
    refine ⟨fun pins s σ H Q I w => ?_⟩
    obtain ⟨He, c, h, env, rfl, wf, re, p⟩ := w
    unfold evalE at p
    rw [e] at p
    exact False.elim p
  | some d =>
    obtain ⟨v, u, hm, r, rr⟩ := gl x d e
    refine (pe_glob hg hm r hd).imp fun σ H Q w => ?_
    obtain ⟨He, c, h, env, rfl, wf, re, p⟩ := w
    unfold evalE at p
    rw [e] at p
    exact PostE.here wf p (rr c)
/-! ### two parts -/
theorem two_red {a b : E} {f : Hh → R → R → Option R} {e : E} (he : ∀ env h, evalE C G e env h = (evalE C G a env h).bind fun x h1 => (evalE C G b env h1).bind fun y h2 => Res.of h2 (f h2 x y)) {r : R2}
    (prim : ∀ (c : Cfg) (h : Hh) (x y : R) (u v : V) (Q : VK), WF X.K c h → RelR X.K c x u → RelR X.K c y v → PostE X.K EW c Q (Res.of h (f h x y)) → r u v c.H Q) :
    ∀ σ H Q, tE X.K EW C G e σ H Q → tOp r (tE X.K EW C G a) (tE X.K EW C G b) σ H Q := fun σ H Q w => by
  obtain ⟨He, c, h, env, rfl, wf, re, p⟩ := w
  rw [he] at p
  refine ⟨He, c, h, env, rfl, wf, re, p.bind fun x h1 c1 u le1 wf1 r1 p1 => ?_⟩
  have p1 := PostE.lift le1 p1
  refine ⟨He, c1, h1, env, rfl, wf1, re.mono le1, p1.bind fun y h2 c2 v le2 wf2 r2 p2 => ?_⟩
  exact prim c2 h2 x y u v Q wf2 (RelR.mono le2 r1.1) r2.1 (PostE.lift le2 p2)
theorem one_red {a : E} {f : Hh → R → Option R} {e : E} (he : ∀ env h, evalE C G e env h = (evalE C G a env h).bind fun x h1 => Res.of h1 (f h1 x)) {r : V → Hp → VK → Prop}
    (prim : ∀ (c : Cfg) (h : Hh) (x : R) (u : V) (Q : VK), WF X.K c h → RelR X.K c x u → PostE X.K EW c Q (Res.of h (f h x)) → r u c.H Q) :
    ∀ σ H Q, tE X.K EW C G e σ H Q → tUn r (tE X.K EW C G a) σ H Q := fun σ H Q w => by
  obtain ⟨He, c, h, env, rfl, wf, re, p⟩ := w
  rw [he] at p
  refine ⟨He, c, h, env, rfl, wf, re, p.bind fun x h1 c1 u le1 wf1 r1 p1 => ?_⟩
  exact prim c1 h1 x u Q wf1 r1.1 (PostE.lift le1 p1)
/-! ### + - * // % ** -/
def rAddM (K : PySem.W.Frag) : R2 := fun x y H Q => rI0 (fun i j => .int (i + j)) x y H Q ∨ ((∃ i j, x = .str i ∧ y = .str j ∧ i.length + j.length ≤ sizeLine ∧ Q (.str (i ++ j)) H) ∨ (rCatA K x y H Q ∨ rCat x y H Q))
theorem op_addM : OpR X (binaryOp .Add) (rAddM X.K) := op_add.or (op_add_str.or (op_catA.or op_cat))
theorem prim_add (c : Cfg) (h : Hh) (x y : R) (u v : V) (Q : VK) (wf : WF X.K c h) (r1 : RelR X.K c x u) (r2 : RelR X.K c y v) (p : PostE X.K EW c Q (Res.of h (addF h x y))) : rAddM X.K u v c.H Q := by
  unfold addF at p
  split at p
  · rename_i i j
    refine .inl ⟨i, j, r1, r2, PostE.here wf p ?_⟩
    show RelD X.K c (.int (i + j)) _
    unfold RelD; rfl
  · rename_i a b
    split at p
    · rename_i hz
      refine .inr (.inl ⟨a, b, r1, r2, hz, PostE.here wf p ?_⟩)
      show RelD X.K c (.str (a ++ b)) _
      unfold RelD; rfl
    · exact False.elim p
  · rename_i a b
    split at p
    · rename_i hz
      have q1 : RelD X.K c (.tup a) u := r1
      have q2 : RelD X.K c (.tup b) v := r2
      unfold RelD at q1 q2
      obtain ⟨p1, xs, rfl, s1, t1⟩ := q1
      obtain ⟨p2, ys, rfl, s2, t2⟩ := q2
      have l1 := t1.length
      have l2 := t2.length
      refine .inr (.inr (.inl ⟨p1, p2, xs, ys, rfl, rfl, s1, s2, by omega, fun e => ?_, fun _ e => ?_, fun _ _ p hp => ?_⟩))
      · subst e
        have : a = [] := List.eq_nil_of_length_eq_zero (by simpa using l1)
        subst this
        exact PostE.here wf p r2
      · subst e
        have : b = [] := List.eq_nil_of_length_eq_zero (by simpa using l2)
        subst this
        rw [List.append_nil] at p
        exact PostE.here wf p r1
      · exact PostE.newT wf hp (t1.append t2) (by assumption)
    · exact False.elim p
  · split at p
    · rename_i a b e1 e2
      split at p
      · rename_i hz
        obtain ⟨p1, xs, rfl, s1, t1⟩ := lv_rel wf r1 e1
        obtain ⟨p2, ys, rfl, s2, t2⟩ := lv_rel wf r2 e2
        have l1 := t1.length
        have l2 := t2.length
        exact .inr (.inr (.inr ⟨p1, p2, xs, ys, rfl, rfl, s1, s2, by omega, fun p hp => PostE.newL wf hp (t1.append t2) (by assumption)⟩))
      · exact False.elim p
    · exact False.elim p
theorem sim_add {a b : Expr} {ma mb : E} {pos : Pos} (ha : PE X a (tE X.K EW C G ma)) (hb : PE X b (tE X.K EW C G mb)) : PE X (.BinOp a .Add b pos) (tE X.K EW C G (.bin .add ma mb)) :=
  (pe_op op_addM ha hb).imp (two_red (f := fun h => binF h .add) (fun _ _ => by conv => lhs; unfold evalE) prim_add)
theorem twoI_ {f : Int → Int → Option D} {c : Cfg} {h : Hh} {x y : R} {u v : V} {Q : VK} (wf : WF X.K c h) (r1 : RelR X.K c x u) (r2 : RelR X.K c y v) (p : PostE X.K EW c Q (Res.of h (twoI f x y))) :
    ∃ i j d, u = .int i ∧ v = .int j ∧ f i j = some d ∧ PostE X.K EW c Q (.ok (.dat d) h) := by
  unfold twoI at p
  split at p
  · rename_i i j
    cases e : f i j with
    | none => rw [e] at p; exact False.elim p
    | some d => rw [e] at p; exact ⟨i, j, d, r1, r2, e, p⟩
  · exact False.elim p
theorem relInt {c : Cfg} {i : Int} : RelR X.K c (.dat (.int i)) (.int i) := by
  show RelD X.K c (.int i) _
  unfold RelD; rfl
theorem relBl {c : Cfg} {i : Bool} : RelR X.K c (.dat (.bl i)) (.bl i) := by
  show RelD X.K c (.bl i) _
  unfold RelD; rfl
theorem relStr {c : Cfg} {i : Str} : RelR X.K c (.dat (.str i)) (.str i) := by
  show RelD X.K c (.str i) _
  unfold RelD; rfl
theorem sim_sub {a b : Expr} {ma mb : E} {pos : Pos} (ha : PE X a (tE X.K EW C G ma)) (hb : PE X b (tE X.K EW C G mb)) : PE X (.BinOp a .Sub b pos) (tE X.K EW C G (.bin .sub ma mb)) :=
  (pe_op op_sub ha hb).imp (two_red (f := fun h => binF h .sub) (fun _ _ => by conv => lhs; unfold evalE) fun c h x y u v Q wf r1 r2 p => by
    obtain ⟨i, j, d, rfl, rfl, e, p⟩ := twoI_ wf r1 r2 p
    cases e
    exact ⟨i, j, rfl, rfl, PostE.here wf p relInt⟩)
theorem RelDs.rep {c : Cfg} {l : List D} {vs : List V} (h : RelDs X.K c l vs) : ∀ n : Nat, RelDs X.K c (List.replicate n l).flatten (List.replicate n vs).flatten
  | 0 => by simpa using RelDs.nil
  | n + 1 => by
    rw [List.replicate_succ, List.replicate_succ, List.flatten_cons, List.flatten_cons]
    exact h.append (RelDs.rep h n)
def rMulM (K : PySem.W.Frag) : R2 := fun x y H Q => rI CMul (fun i j => .int (i * j)) x y H Q ∨ (rMulS x y H Q ∨ (rRepA K x y H Q ∨ rRep x y H Q))
theorem op_mulM : OpR X (binaryOp .Mult) (rMulM X.K) := op_mul.or (op_mulS.or (op_repA.or op_rep))
theorem prim_mul (c : Cfg) (h : Hh) (x y : R) (u v : V) (Q : VK) (wf : WF X.K c h) (r1 : RelR X.K c x u) (r2 : RelR X.K c y v) (p : PostE X.K EW c Q (Res.of h (mulF h x y))) : rMulM X.K u v c.H Q := by
  unfold mulF at p
  split at p
  · rename_i i j
    cases e : mulI i j with
    | none => rw [e] at p; exact False.elim p
    | some d =>
      rw [e] at p
      unfold mulI near at e
      split at e
      · rename_i hz
        cases e
        simp only [Bool.or_eq_true, Bool.and_eq_true, decide_eq_true_eq] at hz
        exact .inl ⟨i, j, r1, r2, hz, PostE.here wf p relInt⟩
      · cases e
  · rename_i a k
    split at p
    · rename_i hz
      exact .inr (.inl ⟨a, k, r1, r2, hz.1, hz.2.1, hz.2.2, PostE.here wf p relStr⟩)
    · exact False.elim p
  · rename_i a k
    split at p
    · rename_i hz
      have q1 : RelD X.K c (.tup a) u := r1
      unfold RelD at q1
      obtain ⟨p1, xs, rfl, s1, t1⟩ := q1
      have l1 := t1.length
      refine .inr (.inr (.inl ⟨p1, k, xs, rfl, r2, s1, hz.1, hz.2.1, by rw [← l1]; exact hz.2.2, fun e => ?_, fun _ q hq => PostE.newT wf hq (RelDs.rep t1 _) p⟩))
      have e2 : (List.replicate k.toNat a).flatten = a := by
        rcases e with e | e
        · subst e
          have : a = [] := List.eq_nil_of_length_eq_zero (by simpa using l1)
          subst this
          simp
        · subst e
          simp
      rw [e2] at p
      exact PostE.here wf p r1
    · exact False.elim p
  · rename_i k _ _ _
    split at p
    · rename_i l e
      split at p
      · rename_i hz
        obtain ⟨a, vs, rfl, g1, g2⟩ := lv_rel wf r1 e
        exact .inr (.inr (.inr ⟨a, k, vs, rfl, r2, g1, hz.1, hz.2.1, by rw [← RelDs.length g2]; exact hz.2.2, fun q hq => PostE.newL wf hq (RelDs.rep g2 _) p⟩))
      · exact False.elim p
    · exact False.elim p
  · exact False.elim p
theorem sim_mul {a b : Expr} {ma mb : E} {pos : Pos} (ha : PE X a (tE X.K EW C G ma)) (hb : PE X b (tE X.K EW C G mb)) : PE X (.BinOp a .Mult b pos) (tE X.K EW C G (.bin .mul ma mb)) :=
  (pe_op op_mulM ha hb).imp (two_red (f := fun h => binF h .mul) (fun _ _ => by conv => lhs; unfold evalE) prim_mul)
theorem sim_fdiv {a b : Expr} {ma mb : E} {pos : Pos} (ha : PE X a (tE X.K EW C G ma)) (hb : PE X b (tE X.K EW C G mb)) : PE X (.BinOp a .FloorDiv b pos) (tE X.K EW C G (.bin .fdiv ma mb)) :=
  (pe_op op_fdivN ha hb).imp (two_red (f := fun h => binF h .fdiv) (fun _ _ => by conv => lhs; unfold evalE) fun c h x y u v Q wf r1 r2 p => by
    obtain ⟨i, j, d, rfl, rfl, e, p⟩ := twoI_ wf r1 r2 p
    unfold fdivI at e
    split at e
    · rename_i hz
      cases e
      exact ⟨i, j, rfl, rfl, hz, PostE.here wf p relInt⟩
    · cases e)
theorem sim_mod {a b : Expr} {ma mb : E} {pos : Pos} (ha : PE X a (tE X.K EW C G ma)) (hb : PE X b (tE X.K EW C G mb)) : PE X (.BinOp a .Mod b pos) (tE X.K EW C G (.bin .mod ma mb)) :=
  (pe_op op_modN ha hb).imp (two_red (f := fun h => binF h .mod) (fun _ _ => by conv => lhs; unfold evalE) fun c h x y u v Q wf r1 r2 p => by
    obtain ⟨i, j, d, rfl, rfl, e, p⟩ := twoI_ wf r1 r2 p
    unfold modI at e
    split at e
    · rename_i hz
      cases e
      exact ⟨i, j, rfl, rfl, hz, PostE.here wf p relInt⟩
    · cases e)
theorem sim_pow {a b : Expr} {ma mb : E} {pos : Pos} (ha : PE X a (tE X.K EW C G ma)) (hb : PE X b (tE X.K EW C G mb)) : PE X (.BinOp a .Pow b pos) (tE X.K EW C G (.bin .pow ma mb)) :=
  (pe_op op_pow ha hb).imp (two_red (f := fun h => binF h .pow) (fun _ _ => by conv => lhs; unfold evalE) fun c h x y u v Q wf r1 r2 p => by
    obtain ⟨i, j, d, rfl, rfl, e, p⟩ := twoI_ wf r1 r2 p
    unfold powI at e
    split at e
    · rename_i hz
      cases e
      exact ⟨i, j, rfl, rfl, hz, PostE.here wf p relInt⟩
    · cases e)
theorem sim_neg {a : Expr} {ma : E} {pos : Pos} (ha : PE X a (tE X.K EW C G ma)) : PE X (.UnaryOp .USub a pos) (tE X.K EW C G (.neg ma)) :=
  (pe_un un_neg ha).imp (one_red (f := fun _ => negF) (fun env h => by conv => lhs; unfold evalE) fun c h x u Q wf r1 p => by
    unfold negF at p
    split at p
    · rename_i i
      exact ⟨i, r1, PostE.here wf p relInt⟩
    · exact False.elim p)
/-! ### comparisons -/
theorem pyAll_dp {K : PySem.W.Frag} {c : Cfg} : True := True.intro
mutual
theorem dp_of {K : PySem.W.Frag} {c : Cfg} : ∀ (d : D) (v : V) (p : PyData), RelD K c d v → d.py = some p → Dp K c.H v p
  | .non, v, p, h, e => by unfold RelD at h; unfold D.py at e; cases e; subst h; exact .non
  | .bl b, v, p, h, e => by unfold RelD at h; unfold D.py at e; cases e; subst h; exact .bl b
  | .int b, v, p, h, e => by unfold RelD at h; unfold D.py at e; cases e; subst h; exact .int b
  | .str b, v, p, h, e => by unfold RelD at h; unfold D.py at e; cases e; subst h; exact .str b
  | .tup l, v, p, h, e => by
    unfold RelD at h; unfold D.py at e
    obtain ⟨a, vs, rfl, h1, h2⟩ := h
    cases q : pyAll l with
    | none => rw [q] at e; cases e
    | some ps => rw [q] at e; cases e; exact .tup h1 (dps_of l vs ps h2 q)
  | .lst l, v, p, h, e => by
    unfold RelD at h; unfold D.py at e
    obtain ⟨a, vs, rfl, _, h1, h2⟩ := h
    cases q : pyAll l with
    | none => rw [q] at e; cases e
    | some ps => rw [q] at e; cases e; exact .lst (.inl (.inl h1)) (dps_of l vs ps h2 q)
  | .arg l, v, p, h, e => by
    unfold RelD at h; unfold D.py at e
    obtain ⟨a, vs, rfl, h1, h2⟩ := h
    cases q : pyAll l with
    | none => rw [q] at e; cases e
    | some ps => rw [q] at e; cases e; exact .lst h1.seq (dps_of l vs ps h2 q)
  | .ref _, _, _, _, e => by unfold D.py at e; cases e
theorem dps_of {K : PySem.W.Frag} {c : Cfg} : ∀ (l : List D) (vs : List V) (ps : List PyData), RelDs K c l vs → pyAll l = some ps → DpAll K c.H vs ps
  | [], vs, ps, h, e => by unfold RelDs at h; unfold pyAll at e; cases e; subst h; exact .nil
  | d :: l, vs, ps, h, e => by
    unfold RelDs at h; unfold pyAll at e
    obtain ⟨v, r, rfl, h1, h2⟩ := h
    cases q1 : d.py with
    | none => rw [q1] at e; cases e
    | some x =>
      cases q2 : pyAll l with
      | none => rw [q1, q2] at e; cases e
      | some xs => rw [q1, q2] at e; cases e; exact .cons (dp_of d v x h1 q1) (dps_of l r xs h2 q2)
end
theorem dpR_of {K : PySem.W.Frag} {c : Cfg} {h : Hh} (wf : WF K c h) {r : R} {v : V} {p : PyData} (hr : RelR K c r v) (e : r.pyH h = some p) : Dp K c.H v p := by
  have own : ∀ l : List D, Mi.OwnL K c l v → (pyAll l).map PyData.list = some p → Dp K c.H v p := fun l ⟨a, vs, e1, e2, _, _, e3⟩ q => by
    subst e1
    cases q1 : pyAll l with
    | none => rw [q1] at q; cases q
    | some ps => rw [q1] at q; cases q; exact .lst (.inl (.inl e2)) (dps_of l vs ps e3 q1)
  unfold R.pyH at e
  split at e
  · rename_i n
    split at e
    · rename_i l hl
      have hr' : RelD K c (.ref n) v := hr
      unfold RelD at hr'
      obtain ⟨vs, e1, e2⟩ := wf.obj n _ hl
      cases q1 : pyAll l with
      | none => rw [q1] at e; cases e
      | some ps => rw [q1] at e; cases e; rw [hr'.2]; exact .lst (.inl (.inl e1)) (dps_of l vs ps e2 q1)
    · cases e
  · unfold R.py at e
    split at e
    · exact dp_of _ v p hr e
    · exact own _ hr e
    · exact own _ hr e
/-- what a comparison of two answers asks of the layer's rule -/
def CmpPrim (X : Cx) (EW : EWish) (op : Cop) (r : R2) : Prop := ∀ (c : Cfg) (h : Hh) (x y : R) (u v : V) (Q : VK), WF X.K c h → RelR X.K c x u → RelR X.K c y v → ∀ b, cmpF h op x y = some b → (∀ c', c' = c → Q (.bl b) c'.H) → r u v c.H Q
theorem cmp_two {op : Cop} {r : R2} (pr : CmpPrim X EW op r) {a b : E} : ∀ σ H Q, tE X.K EW C G (.cmp op a b) σ H Q → tOp r (tE X.K EW C G a) (tE X.K EW C G b) σ H Q :=
  two_red (f := fun h x y => (cmpF h op x y).map fun b => .dat (.bl b)) (fun _ _ => by conv => lhs; unfold evalE) fun c h x y u v Q wf r1 r2 p => by
    cases e : cmpF h op x y with
    | none => rw [e] at p; exact False.elim p
    | some b =>
      rw [e] at p
      exact pr c h x y u v Q wf r1 r2 b e fun c' ec => by subst ec; exact PostE.here wf p relBl
theorem cp_eq (hu : X.A.units + 64 < cLine) : CmpPrim X EW .eq (fun x y H Q => rEq x y H Q ∨ rEqD X.K x y H Q) := fun c h x y u v Q wf r1 r2 b e q => by
  have e : eqF h x y = some b := e
  unfold eqF at e
  split at e
  · rename_i a b _
    cases e
    have r1 : RelD X.K c (.str a) u := r1
    have r2 : RelD X.K c (.str b) v := r2
    unfold RelD at r1 r2
    subst r1
    subst r2
    have := q c rfl
    exact .inl ⟨rfl, by simpa using this⟩
  · split at e
    · rename_i p1 p2 e1 e2
      split at e
      · rename_i hs
        cases e
        simp only [Bool.and_eq_true] at hs
        exact .inr ⟨p1, p2, dpR_of wf r1 e1, dpR_of wf r2 e2, hs.1, hs.2, q c rfl⟩
      · cases e
    · cases e
theorem cp_ne (hu : X.A.units + 64 < cLine) : CmpPrim X EW .ne (fun x y H Q => rNe x y H Q ∨ rNeD X.K x y H Q) := fun c h x y u v Q wf r1 r2 b e q => by
  have e : (eqF h x y).map (!·) = some b := e
  unfold eqF at e
  split at e
  · rename_i a b _
    cases e
    have r1 : RelD X.K c (.str a) u := r1
    have r2 : RelD X.K c (.str b) v := r2
    unfold RelD at r1 r2
    subst r1
    subst r2
    have := q c rfl
    exact .inl ⟨rfl, by simpa using this⟩
  · split at e
    · rename_i p1 p2 e1 e2
      split at e
      · rename_i hs
        cases e
        simp only [Bool.and_eq_true] at hs
        exact .inr ⟨p1, p2, dpR_of wf r1 e1, dpR_of wf r2 e2, hs.1, hs.2, q c rfl⟩
      · cases e
    · cases e
theorem cp_ord {op : Cop} {f : Int → Int → Bool} (hop : ∀ h x y, cmpF h op x y = ordF f x y) : CmpPrim X EW op (rI0 fun i j => .bl (f i j)) := fun c h x y u v Q wf r1 r2 b e q => by
  rw [hop] at e
  unfold ordF at e
  split at e
  · rename_i i j
    cases e
    exact ⟨i, j, r1, r2, q c rfl⟩
  · cases e
theorem cp_lt : CmpPrim X EW .lt (rI0 fun i j => .bl (decide (i < j))) := cp_ord fun _ _ _ => rfl
theorem cp_le : CmpPrim X EW .le (rI0 fun i j => .bl (decide (i ≤ j))) := cp_ord fun _ _ _ => rfl
theorem cp_gt : CmpPrim X EW .gt (rI0 fun i j => .bl (decide (j < i))) := cp_ord fun _ _ _ => rfl
theorem cp_ge : CmpPrim X EW .ge (rI0 fun i j => .bl (decide (j ≤ i))) := cp_ord fun _ _ _ => rfl
theorem isN_ {c : Cfg} {x y : R} {u v : V} {b : Bool} (r1 : RelR X.K c x u) (r2 : RelR X.K c y v) (e : isN x y = some b) : v = .non ∧ b = decide (u = .non) := by
  unfold isN at e
  split at e
  · cases e
    have h1 : RelD X.K c .non u := r1
    have h2 : RelD X.K c .non v := r2
    unfold RelD at h1 h2
    exact ⟨h2, by rw [h1]; rfl⟩
  · rename_i hx
    cases e
    have h2 : RelD X.K c .non v := r2
    unfold RelD at h2
    refine ⟨h2, (decide_eq_false fun z => ?_).symm⟩
    subst z
    cases x with
    | new l => obtain ⟨a, vs, e1, _⟩ := r1; cases e1
    | bor l => obtain ⟨a, vs, e1, _⟩ := r1; cases e1
    | dat d =>
      have h1 : RelD X.K c d .non := r1
      cases d with
      | non => exact hx rfl
      | bl b => unfold RelD at h1; cases h1
      | int b => unfold RelD at h1; cases h1
      | str b => unfold RelD at h1; cases h1
      | tup l => unfold RelD at h1; obtain ⟨a, vs, e1, _⟩ := h1; cases e1
      | lst l => unfold RelD at h1; obtain ⟨a, vs, e1, _⟩ := h1; cases e1
      | arg l => unfold RelD at h1; obtain ⟨a, vs, e1, _⟩ := h1; cases e1
      | ref n => unfold RelD at h1; cases h1.2
  · cases e
theorem cp_is : CmpPrim X EW .is (fun x y H Q => y = .non ∧ Q (.bl (decide (x = .non))) H) := fun c h x y u v Q wf r1 r2 b e q => by
  obtain ⟨h1, h2⟩ := isN_ r1 r2 e
  exact ⟨h1, by rw [← h2]; exact q c rfl⟩
theorem cp_isnot : CmpPrim X EW .isnot (fun x y H Q => y = .non ∧ Q (.bl (!decide (x = .non))) H) := fun c h x y u v Q wf r1 r2 b e q => by
  have e : (isN x y).map (!·) = some b := e
  cases e1 : isN x y with
  | none => rw [e1] at e; cases e
  | some b' =>
    rw [e1] at e
    cases e
    obtain ⟨h1, h2⟩ := isN_ r1 r2 e1
    exact ⟨h1, by rw [← h2]; exact q c rfl⟩
theorem flat_rel {c : Cfg} {d : D} {v w : V} (h : RelD X.K c d v) (e : d.flat = some w) : v = w ∧ flatV w = true := by
  cases d with
  | non => unfold RelD at h; unfold D.flat at e; cases e; exact ⟨h, rfl⟩
  | bl b => unfold RelD at h; unfold D.flat at e; cases e; exact ⟨h, rfl⟩
  | int b => unfold RelD at h; unfold D.flat at e; cases e; exact ⟨h, rfl⟩
  | str b => unfold RelD at h; unfold D.flat at e; cases e; exact ⟨h, rfl⟩
  | _ => unfold D.flat at e; cases e
theorem flats_rel {c : Cfg} : ∀ {l : List D} {vs ws : List V}, RelDs X.K c l vs → flats l = some ws → vs = ws ∧ ws.all flatV = true
  | [], vs, ws, h, e => by unfold RelDs at h; unfold flats at e; cases e; exact ⟨h, rfl⟩
  | d :: l, vs, ws, h, e => by
    unfold RelDs at h; unfold flats at e
    obtain ⟨v, r, rfl, h1, h2⟩ := h
    cases q1 : d.flat with
    | none => rw [q1] at e; cases e
    | some x =>
      cases q2 : flats l with
      | none => rw [q1, q2] at e; cases e
      | some xs =>
        rw [q1, q2] at e; cases e
        obtain ⟨a1, a2⟩ := flat_rel h1 q1
        obtain ⟨b1, b2⟩ := flats_rel h2 q2
        exact ⟨by rw [a1, b1], by simp [a2, b2]⟩
def rInM (K : PySem.W.Frag) : R2 := fun x y H Q => (∃ (c : Nat) (z : Str), x = .str ⟨#[c]⟩ ∧ y = .str z ∧ Q (.bl (decide (c ∈ z.cps.toList))) H) ∨ rIn K false x y H Q
def rNotInM (K : PySem.W.Frag) : R2 := fun x y H Q => (∃ (c : Nat) (z : Str), x = .str ⟨#[c]⟩ ∧ y = .str z ∧ Q (.bl (!decide (c ∈ z.cps.toList))) H) ∨ rIn K true x y H Q
theorem str_one {a : Str} {c : Nat} (h : a.cps.toList = [c]) : a = ⟨#[c]⟩ := by
  obtain ⟨⟨l⟩⟩ := a
  simp at h
  subst h
  rfl
theorem in_ {c : Cfg} {h : Hh} {x y : R} {u v : V} {b : Bool} (wf : WF X.K c h) (r1 : RelR X.K c x u) (r2 : RelR X.K c y v) (e : inF h x y = some b) :
    (∃ (n : Nat) (z : Str), u = .str ⟨#[n]⟩ ∧ v = .str z ∧ b = decide (n ∈ z.cps.toList)) ∨ ∃ p xs, v = .ref p ∧ (SqL X.K c.H p xs ∨ SqT X.K c.H p xs) ∧ flatV u = true ∧ xs.all flatV = true ∧ b = inV u xs := by
  unfold inF at e
  split at e
  · rename_i a z
    split at e
    · rename_i n hn
      cases e
      have h1 : RelD X.K c (.str a) u := r1
      have h2 : RelD X.K c (.str z) v := r2
      unfold RelD at h1 h2
      exact .inl ⟨n, z, by rw [h1, str_one hn], h2, rfl⟩
    · cases e
  · rename_i d y' _
    split at e
    · rename_i w ws e1 e2
      cases e
      obtain ⟨a1, a2⟩ := flat_rel r1 e1
      obtain ⟨l, e3, e4⟩ := Option.bind_eq_some_iff.mp e2
      obtain ⟨p, xs, g1, g2, g3⟩ := sv_rel wf r2 e3
      obtain ⟨b1, b2⟩ := flats_rel g3 e4
      exact .inr ⟨p, xs, g1, g2, by rw [a1]; exact a2, by rw [b1]; exact b2, by rw [a1, b1]⟩
    · cases e
  · cases e
theorem op_inM : OpR X (compareOp .In) (rInM X.K) := op_in_sign.or op_in_seq
theorem op_notInM : OpR X (compareOp .NotIn) (rNotInM X.K) := op_notIn_sign.or op_notIn_seq
theorem cp_in : CmpPrim X EW .isin (rInM X.K) := fun c h x y u v Q wf r1 r2 b e q => by
  rcases in_ wf r1 r2 e with ⟨n, z, rfl, rfl, rfl⟩ | ⟨p, xs, g1, g2, g3, g4, rfl⟩
  · exact .inl ⟨n, z, rfl, rfl, q c rfl⟩
  · exact .inr ⟨p, xs, g1, g2, g3, g4, q c rfl⟩
theorem cp_notin : CmpPrim X EW .notin (rNotInM X.K) := fun c h x y u v Q wf r1 r2 b e q => by
  have e : (inF h x y).map (!·) = some b := e
  cases e1 : inF h x y with
  | none => rw [e1] at e; cases e
  | some b' =>
    rw [e1] at e
    cases e
    rcases in_ wf r1 r2 e1 with ⟨n, z, rfl, rfl, rfl⟩ | ⟨p, xs, g1, g2, g3, g4, rfl⟩
    · exact .inl ⟨n, z, rfl, rfl, q c rfl⟩
    · exact .inr ⟨p, xs, g1, g2, g3, g4, q c rfl⟩
/-- the layer's rule behind each comparison -/
structure CmpRule (X : Cx) (EW : EWish) (op : CmpOp) (m : Cop) where
  r : R2
  rule : OpR X (compareOp op) r
  prim : CmpPrim X EW m r
def cr_eq (hu : X.A.units + 64 < cLine) : CmpRule X EW .Eq .eq := ⟨_, op_eq.or (op_eqD hu), cp_eq hu⟩
def cr_ne (hu : X.A.units + 64 < cLine) : CmpRule X EW .NotEq .ne := ⟨_, op_ne.or (op_neD hu), cp_ne hu⟩
def cr_lt : CmpRule X EW .Lt .lt := ⟨_, op_lt, cp_lt⟩
def cr_le : CmpRule X EW .LtE .le := ⟨_, op_le, cp_le⟩
def cr_gt : CmpRule X EW .Gt .gt := ⟨_, op_gt, cp_gt⟩
def cr_ge : CmpRule X EW .GtE .ge := ⟨_, op_ge, cp_ge⟩
def cr_is : CmpRule X EW .Is .is := ⟨_, op_isN, cp_is⟩
def cr_isnot : CmpRule X EW .IsNot .isnot := ⟨_, op_notN, cp_isnot⟩
def cr_in : CmpRule X EW .In .isin := ⟨_, op_inM, cp_in⟩
def cr_notin : CmpRule X EW .NotIn .notin := ⟨_, op_notInM, cp_notin⟩
theorem sim_cmp {op : CmpOp} {m : Cop} (R : CmpRule X EW op m) {a b : Expr} {ma mb : E} {pos : Pos} (ha : PE X a (tE X.K EW C G ma)) (hb : PE X b (tE X.K EW C G mb)) (hm : behindInMarks op b = false := by first | exact nomark _ | rfl) :
    PE X (.Compare a [op] [b] pos) (tE X.K EW C G (.cmp m ma mb)) := (pe_cmpR R.rule ha hb hm).imp (cmp_two R.prim)
theorem tst_cmp {op : CmpOp} {m : Cop} (R : CmpRule X EW op m) {a b : Expr} {ma mb : E} {pos : Pos} (ha : PE X a (tE X.K EW C G ma)) (hb : PE X b (tE X.K EW C G mb)) (hm : behindInMarks op b = false := by first | exact nomark _ | rfl) :
    PT X (.Compare a [op] [b] pos) (tT X.K EW C G (.cmp m ma mb)) := (pt_cmpR R.rule ha hb hm).imp fun σ H Q w => cmp_two R.prim σ H _ w
theorem chain_red {op op' : CmpOp} {m m' : Cop} (R : CmpRule X EW op m) (R' : CmpRule X EW op' m') {a b c : E} : ∀ σ H Q, tE X.K EW C G (.chain m m' a b c) σ H Q → tChain R.r R'.r (tE X.K EW C G a) (tE X.K EW C G b) (tE X.K EW C G c) σ H Q := fun σ H Q w => by
  obtain ⟨He, c0, h, env, rfl, wf, re, p⟩ := w
  unfold evalE at p
  refine ⟨He, c0, h, env, rfl, wf, re, p.bind fun x h1 c1 u le1 wf1 r1 p1 => ?_⟩
  have p1 := PostE.lift le1 p1
  refine ⟨He, c1, h1, env, rfl, wf1, re.mono le1, p1.bind fun y h2 c2 v le2 wf2 r2 p2 => ?_⟩
  have p2 := PostE.lift le2 p2
  cases e : cmpF h2 m x y with
  | none => rw [e] at p2; exact False.elim p2
  | some k =>
    rw [e] at p2
    refine R.prim c2 h2 x y u v _ wf2 (RelR.mono le2 r1.1) r2.1 k e fun c' ec => ?_
    subst ec
    refine ⟨k, rfl, ?_⟩
    cases k with
    | false => exact PostE.here wf2 p2 relBl
    | true =>
      refine ⟨He, c', h2, env, rfl, wf2, (re.mono le1).mono le2, p2.bind fun z h3 c3 t le3 wf3 r3 p3 => ?_⟩
      have p3 := PostE.lift le3 p3
      cases e' : cmpF h3 m' y z with
      | none => rw [e'] at p3; exact False.elim p3
      | some k' =>
        rw [e'] at p3
        exact R'.prim c3 h3 y z v t _ wf3 (RelR.mono le3 r2.1) r3.1 k' e' fun c' ec => by subst ec; exact PostE.here wf3 p3 relBl
theorem sim_chain {op op' : CmpOp} {m m' : Cop} (R : CmpRule X EW op m) (R' : CmpRule X EW op' m') {a b c : Expr} {ma mb mc : E} {pos : Pos} (ha : PE X a (tE X.K EW C G ma)) (hb : PE X b (tE X.K EW C G mb)) (hc : PE X c (tE X.K EW C G mc))
    (hm : lastMarks [op, op'] [b, c] = false := by with_unfolding_all rfl) : PE X (.Compare a [op, op'] [b, c] pos) (tE X.K EW C G (.chain m m' ma mb mc)) := (pe_chain R.rule R'.rule ha hb hc hm).imp (chain_red R R')
theorem tst_chain {op op' : CmpOp} {m m' : Cop} (R : CmpRule X EW op m) (R' : CmpRule X EW op' m') {a b c : Expr} {ma mb mc : E} {pos : Pos} (ha : PE X a (tE X.K EW C G ma)) (hb : PE X b (tE X.K EW C G mb)) (hc : PE X c (tE X.K EW C G mc))
    (hm : lastMarks [op, op'] [b, c] = false := by with_unfolding_all rfl) : PT X (.Compare a [op, op'] [b, c] pos) (tT X.K EW C G (.chain m m' ma mb mc)) := (pt_chain R.rule R'.rule ha hb hc hm).imp fun σ H Q w => chain_red R R' σ H _ w
/-! ### and, or, not, if -/
theorem tst_val {e : Expr} {m : E} (h : PE X e (tE X.K EW C G m)) (he : ∀ whole, isTrue e X.env whole = (do let v ← whole; standAt e.pos; holding [v] (truthy v)) := by intro _; rfl) : PT X e (tT X.K EW C G m) := pt_val h he
theorem and2_red {a b : E} : ∀ σ H Q, tE X.K EW C G (.and2 a b) σ H Q → tAndV (tE X.K EW C G a) (tE X.K EW C G b) σ H Q := fun σ H Q w => by
  obtain ⟨He, c, h, env, rfl, wf, re, p⟩ := w
  unfold evalE at p
  refine ⟨He, c, h, env, rfl, wf, re, p.bind fun x h1 c1 u le1 wf1 r1 p1 => ?_⟩
  have p1 := PostE.lift le1 p1
  split at p1
  · have q : RelD X.K c1 (.bl true) u := r1.1
    unfold RelD at q
    exact ⟨true, q, by rw [if_pos rfl]; exact ⟨He, c1, h1, env, rfl, wf1, re.mono le1, p1⟩⟩
  · have q : RelD X.K c1 (.bl false) u := r1.1
    unfold RelD at q
    exact ⟨false, q, by rw [if_neg Bool.false_ne_true]; exact PostE.here wf1 p1 relBl⟩
  · exact False.elim p1
theorem or2_red {a b : E} : ∀ σ H Q, tE X.K EW C G (.or2 a b) σ H Q → tOrV (tE X.K EW C G a) (tE X.K EW C G b) σ H Q := fun σ H Q w => by
  obtain ⟨He, c, h, env, rfl, wf, re, p⟩ := w
  unfold evalE at p
  refine ⟨He, c, h, env, rfl, wf, re, p.bind fun x h1 c1 u le1 wf1 r1 p1 => ?_⟩
  have p1 := PostE.lift le1 p1
  split at p1
  · have q : RelD X.K c1 (.bl true) u := r1.1
    unfold RelD at q
    exact ⟨true, q, by rw [if_pos rfl]; exact PostE.here wf1 p1 relBl⟩
  · have q : RelD X.K c1 (.bl false) u := r1.1
    unfold RelD at q
    exact ⟨false, q, by rw [if_neg Bool.false_ne_true]; exact ⟨He, c1, h1, env, rfl, wf1, re.mono le1, p1⟩⟩
  · exact False.elim p1
theorem not1_red {a : E} : ∀ σ H Q, tE X.K EW C G (.not1 a) σ H Q → tNotV (tE X.K EW C G a) σ H Q := fun σ H Q w => by
  obtain ⟨He, c, h, env, rfl, wf, re, p⟩ := w
  unfold evalE at p
  refine ⟨He, c, h, env, rfl, wf, re, p.bind fun x h1 c1 u le1 wf1 r1 p1 => ?_⟩
  have p1 := PostE.lift le1 p1
  split at p1
  · rename_i k0 _
    have q : RelD X.K c1 (.bl k0) u := r1.1
    unfold RelD at q
    exact ⟨k0, q, PostE.here wf1 p1 relBl⟩
  · exact False.elim p1
theorem ite_red {a b d : E} : ∀ σ H Q, tE X.K EW C G (.ite d a b) σ H Q → tIf (tT X.K EW C G d) (tE X.K EW C G a) (tE X.K EW C G b) σ H Q := fun σ H Q w => by
  obtain ⟨He, c, h, env, rfl, wf, re, p⟩ := w
  unfold evalE at p
  refine ⟨He, c, h, env, rfl, wf, re, p.bind fun x h1 c1 u le1 wf1 r1 p1 => ?_⟩
  have p1 := PostE.lift le1 p1
  split at p1
  · have q : RelD X.K c1 (.bl true) u := r1.1
    unfold RelD at q
    exact ⟨true, q, by show if true = true then _ else _; rw [if_pos rfl]; exact ⟨He, c1, h1, env, rfl, wf1, re.mono le1, p1⟩⟩
  · have q : RelD X.K c1 (.bl false) u := r1.1
    unfold RelD at q
    exact ⟨false, q, by show if false = true then _ else _; rw [if_neg Bool.false_ne_true]; exact ⟨He, c1, h1, env, rfl, wf1, re.mono le1, p1⟩⟩
  · exact False.elim p1
variable {a b d : Expr} {ma mb md : E} {rest : List Expr} {pos : Pos}
theorem sim_last {op : BoolOp} (ha : PE X a (tE X.K EW C G ma)) : PE X (.BoolOp op [a] pos) (tE X.K EW C G ma) := pe_one ha
theorem sim_and (ha : PE X a (tE X.K EW C G ma)) (hb : PE X (.BoolOp .And (b :: rest) pos) (tE X.K EW C G mb)) : PE X (.BoolOp .And (a :: b :: rest) pos) (tE X.K EW C G (.and2 ma mb)) := (pe_and ha hb).imp and2_red
theorem sim_or (ha : PE X a (tE X.K EW C G ma)) (hb : PE X (.BoolOp .Or (b :: rest) pos) (tE X.K EW C G mb)) : PE X (.BoolOp .Or (a :: b :: rest) pos) (tE X.K EW C G (.or2 ma mb)) := (pe_or ha hb).imp or2_red
theorem sim_not (ha : PE X a (tE X.K EW C G ma)) : PE X (.UnaryOp .Not a pos) (tE X.K EW C G (.not1 ma)) := (pe_not ha).imp not1_red
theorem sim_ite (hd : PT X d (tT X.K EW C G md)) (ha : PE X a (tE X.K EW C G ma)) (hb : PE X b (tE X.K EW C G mb)) : PE X (.IfExp d a b pos) (tE X.K EW C G (.ite md ma mb)) := (pe_ifExp hd ha hb).imp ite_red
theorem tE_mono {m : E} {σ : L2.St} {H : Hp} {Q Q' : VK} (w : tE X.K EW C G m σ H Q) (k : ∀ v H', Q v H' → Q' v H') : tE X.K EW C G m σ H Q' := by
  obtain ⟨He, c, h, env, e, wf, re, p⟩ := w
  refine ⟨He, c, h, env, e, wf, re, ?_⟩
  cases q : evalE C G m env h with
  | bad => rw [q] at p; exact p
  | ok r h' => rw [q] at p; exact fun c' v l w' rr => k v _ (p c' v l w' rr)
  | ex x h' => rw [q] at p; exact p
theorem tst_last {op : BoolOp} (ha : PT X a (tT X.K EW C G ma)) : PW X (.BoolOp op [a] pos) (tT X.K EW C G ma) := by
  cases op with
  | And => exact pw_and1 ha
  | Or => exact pw_or1 ha
theorem tst_and (ha : PT X a (tT X.K EW C G ma)) (hb : PW X (.BoolOp .And (b :: rest) pos) (tT X.K EW C G mb)) : PW X (.BoolOp .And (a :: b :: rest) pos) (tT X.K EW C G (.and2 ma mb)) :=
  (pw_and ha hb).imp fun σ H Q w => by
    refine tE_mono (and2_red σ H _ w) fun v H' q => ?_
    obtain ⟨k, e, q⟩ := q
    refine ⟨k, e, ?_⟩
    cases k with
    | true => rw [if_pos rfl] at q ⊢; exact q
    | false =>
      rw [if_neg Bool.false_ne_true] at q ⊢
      obtain ⟨k', e', q⟩ := q
      cases e'
      exact q
theorem tst_or (ha : PT X a (tT X.K EW C G ma)) (hb : PW X (.BoolOp .Or (b :: rest) pos) (tT X.K EW C G mb)) : PW X (.BoolOp .Or (a :: b :: rest) pos) (tT X.K EW C G (.or2 ma mb)) :=
  (pw_or ha hb).imp fun σ H Q w => by
    refine tE_mono (or2_red σ H _ w) fun v H' q => ?_
    obtain ⟨k, e, q⟩ := q
    refine ⟨k, e, ?_⟩
    cases k with
    | false => rw [if_neg Bool.false_ne_true] at q ⊢; exact q
    | true =>
      rw [if_pos rfl] at q ⊢
      obtain ⟨k', e', q⟩ := q
      cases e'
      exact q
theorem tst_not (ha : PT X a (tT X.K EW C G ma)) : PT X (.UnaryOp .Not a pos) (tT X.K EW C G (.not1 ma)) :=
  (pt_not ha).imp fun σ H Q w => by
    refine tE_mono (not1_red σ H _ w) fun v H' q => ?_
    obtain ⟨k, e, q⟩ := q
    refine ⟨k, e, ?_⟩
    obtain ⟨k', e', q⟩ := q
    cases e'
    exact q
end
end Mi
/-! Mi4: arguments, displays, built-ins, places, comprehensions. -/
namespace Mi
open PySem PySem.Spec PyProof.Rows L2

section
variable {X : Cx} {EW : EWish} {C : Calls'} {G : Str → Option D}
/-! ### arguments -/
theorem args_nil : PA X [] (tA X.K EW C G .nil) := pa_nil.imp fun σ H Q w => by
  obtain ⟨He, c, h, env, rfl, wf, re, p⟩ := w
  unfold evalEs at p
  exact p c [] (Le.refl c) wf RelDs.nil
theorem args_cons {e : Expr} {es : List Expr} {m : E} {ms : Es} (he : PE X e (tE X.K EW C G m)) (hes : PA X es (tA X.K EW C G ms)) (hs : starEach (e :: es) X.env = (false, eval e X.env) :: starEach es X.env := by rfl) :
    PA X (e :: es) (tA X.K EW C G (.cons m ms)) := (pa_cons he hes hs).imp fun σ H Q w => by
  obtain ⟨He, c, h, env, rfl, wf, re, p⟩ := w
  unfold evalEs at p
  refine ⟨He, c, h, env, rfl, wf, re, p.bind fun x h1 c1 u le1 wf1 r1 p1 => ?_⟩
  cases e : x.fz with
  | none => rw [e] at p1; exact False.elim p1
  | some d =>
    rw [e] at p1
    obtain ⟨c2, eH, le2, st2, wf2, r2⟩ := freeze_ans le1 wf1 r1 e
    have p2 := Post.lift le2 (fun _ _ _ h => h) p1
    refine ⟨He, c2, h1, env, eH, wf2, re.mono le2, Post.bind (Rl1 := RA X.K) p2 fun ds h2 c3 vs le3 wf3 r3 p3 => ?_⟩
    exact p3 c3 (u :: vs) le3 wf3 (RelDs.cons (RelD.mono le3.toSta _ _ r2) r3)
/-! ### displays -/
theorem sim_tup {es : List Expr} {ms : Es} {k : Nat} {pos : Pos} (hes : PA X es (tA X.K EW C G ms)) : PE X (.Tuple es k pos) (tE X.K EW C G (.tup ms)) := (pe_tup hes).imp fun σ H Q w => by
  obtain ⟨He, c, h, env, rfl, wf, re, p⟩ := w
  unfold evalE at p
  refine ⟨He, c, h, env, rfl, wf, re, p.bind fun ds h1 c1 vs le1 wf1 r1 p1 => ?_⟩
  split at p1
  · rename_i hz
    exact ⟨by rw [← RelDs.length r1]; exact hz, fun q hq => PostE.newT wf1 hq r1 (PostE.lift le1 p1)⟩
  · exact False.elim p1
theorem sim_lst {es : List Expr} {ms : Es} {pos : Pos} (hes : PA X es (tA X.K EW C G ms)) : PE X (.List es pos) (tE X.K EW C G (.lst ms)) := (pe_lst hes).imp fun σ H Q w => by
  obtain ⟨He, c, h, env, rfl, wf, re, p⟩ := w
  unfold evalE at p
  refine ⟨He, c, h, env, rfl, wf, re, p.bind fun ds h1 c1 vs le1 wf1 r1 p1 => ?_⟩
  split at p1
  · rename_i hz
    exact ⟨by rw [← RelDs.length r1]; exact hz, fun q hq => PostE.newL wf1 hq r1 (PostE.lift le1 p1)⟩
  · exact False.elim p1
theorem sim_promo {e : Expr} {m : E} (he : PE X e (tE X.K EW C G m)) : PE X e (tE X.K EW C G (.promo m)) := he.imp fun σ H Q w => by
  obtain ⟨He, c, h, env, rfl, wf, re, p⟩ := w
  unfold evalE at p
  refine ⟨He, c, h, env, rfl, wf, re, p.bind fun x h1 c1 u le1 wf1 r1 p1 => ?_⟩
  split at p1
  · rename_i l
    obtain ⟨⟨a, vs, rfl, g1, g2, g3, g4⟩, g5⟩ := r1
    have wf2 := grow_wf (o := .lst l) wf1 ⟨vs, g1, g4⟩ g2 g3
    refine p1 (c1.grow a) (.ref a) (grow_le le1 g5) wf2 ⟨?_, True.intro⟩
    show RelD X.K _ (.ref _) _
    unfold RelD
    rw [← wf1.sz]
    exact ⟨Nat.lt_succ_self _, by rw [grow_n]⟩
  · exact p1 c1 u le1 wf1 r1
  · exact False.elim p1
/-! ### built-in functions -/
def BltPrim (X : Cx) (EW : EWish) (f : Blt) (r : List V → Hp → VK → Prop) : Prop :=
  ∀ (c : Cfg) (h : Hh) (ds : List D) (vs : List V) (Q : VK), WF X.K c h → RelDs X.K c ds vs → PostE X.K EW c Q (Res.of h (bltF h f ds)) → r vs c.H Q
theorem blt_red {f : Blt} {r : List V → Hp → VK → Prop} (pr : BltPrim X EW f r) {ms : Es} : ∀ σ H Q, tE X.K EW C G (.blt f ms) σ H Q → tCB r (tA X.K EW C G ms) σ H Q := fun σ H Q w => by
  obtain ⟨He, c, h, env, rfl, wf, re, p⟩ := w
  unfold evalE at p
  refine ⟨He, c, h, env, rfl, wf, re, p.bind fun ds h1 c1 vs le1 wf1 r1 p1 => ?_⟩
  exact pr c1 h1 ds vs Q wf1 r1 (PostE.lift le1 p1)
/-- a built-in function, a built-in class called -/
structure BltRule (X : Cx) (EW : EWish) (v : Value) (f : Blt) where
  r : List V → Hp → VK → Prop
  rule : CallR X v r
  prim : BltPrim X EW f r
theorem sim_blt {id : String} {f : Blt} (R : BltRule X EW (.builtin id) f) {x : Str} {e : Expr} {es : List Expr} {ms : Es} {p pos : Pos} (ha : PA X (e :: es) (tA X.K EW C G ms)) (hm : X.mg x = none) (hv : bootBuiltins x = some (.builtin id)) (hg : Gl X x := by rfl)
    (hn : x ≠ "__name__" := by decide) (hdb : (x == ("__debug__" : Str)) = false := by decide) (he : starEach (e :: es) X.env = (false, eval e X.env) :: starEach es X.env := by rfl) (hpl : (backTo pos (starEach es X.env)).any (·.1) = false := by rfl) :
    PE X (.Call (.Name x p) (e :: es) [] pos) (tE X.K EW C G (.blt f ms)) := (pe_callB R.rule hg hm hv ha hn hdb he hpl).imp (blt_red R.prim)
theorem sim_bltT {id : String} {f : Blt} (R : BltRule X EW (.type id) f) {x : Str} {e : Expr} {es : List Expr} {ms : Es} {p pos : Pos} (ha : PA X (e :: es) (tA X.K EW C G ms)) (hm : X.mg x = none) (hv : bootBuiltins x = some (.type id)) (hg : Gl X x := by rfl)
    (hn : x ≠ "__name__" := by decide) (hdb : (x == ("__debug__" : Str)) = false := by decide) (he : starEach (e :: es) X.env = (false, eval e X.env) :: starEach es X.env := by rfl) (hpl : (backTo pos (starEach es X.env)).any (·.1) = false := by rfl) :
    PE X (.Call (.Name x p) (e :: es) [] pos) (tE X.K EW C G (.blt f ms)) := (pe_callTy R.rule hg hm hv ha hn hdb he hpl).imp (blt_red R.prim)
theorem one_arg {c : Cfg} {d : D} {vs : List V} (h : RelDs X.K c [d] vs) : ∃ v, vs = [v] ∧ RelD X.K c d v := by
  unfold RelDs at h
  obtain ⟨v, r, rfl, h1, h2⟩ := h
  unfold RelDs at h2
  subst h2
  exact ⟨v, rfl, h1⟩
def br_len : BltRule X EW (.builtin "len") .len := ⟨_, call_len, fun c h ds vs Q wf r p => by
  replace p : PostE X.K EW c Q (Res.of h (lenF h ds)) := p
  unfold lenF at p
  split at p
  · rename_i s
    split at p
    · rename_i hz
      obtain ⟨v, rfl, r1⟩ := one_arg r
      unfold RelD at r1
      subst r1
      exact ⟨.str s, s.length, rfl, ⟨hz, rfl⟩, PostE.here wf p relInt⟩
    · exact False.elim p
  · rename_i d _
    cases e : sv h (.dat d) with
    | none => rw [e] at p; exact False.elim p
    | some l =>
      rw [e] at p
      obtain ⟨v, rfl, r1⟩ := one_arg r
      obtain ⟨a, xs, rfl, e2, e3⟩ := sv_rel wf (r := .dat d) r1 e
      refine ⟨.ref a, xs.length, rfl, ?_, by rw [← RelDs.length e3]; exact PostE.here wf p relInt⟩
      rcases e2 with e2 | e2
      · exact .inl ⟨xs, e2, rfl⟩
      · exact .inr ⟨xs, e2, rfl⟩
  · exact False.elim p⟩
theorem bools_rel {c : Cfg} : ∀ {l : List D} {vs : List V} {bs : List Bool}, RelDs X.K c l vs → boolsOf l = some bs → vs = bs.map V.bl
  | [], vs, bs, h, e => by unfold RelDs at h; unfold boolsOf at e; cases e; exact h
  | d :: l, vs, bs, h, e => by
    unfold RelDs at h
    obtain ⟨v, r, rfl, h1, h2⟩ := h
    cases d with
    | bl b =>
      unfold boolsOf at e
      cases q : boolsOf l with
      | none => rw [q] at e; cases e
      | some bs' =>
        rw [q] at e; cases e
        unfold RelD at h1
        rw [h1, bools_rel h2 q] <;> rfl
    | _ => unfold boolsOf at e; cases e
def br_all (hc : X.calm = true) : BltRule X EW (.builtin "all") .all := ⟨_, cr_all hc, fun c h ds vs Q wf r p => by
  replace p : PostE X.K EW c Q (Res.of h (allF ds)) := p
  unfold allF at p
  split at p
  · rename_i l
    cases e : boolsOf l with
    | none => rw [e] at p; exact False.elim p
    | some bs =>
      rw [e] at p
      obtain ⟨v, rfl, r1⟩ := one_arg r
      unfold RelD at r1
      obtain ⟨a, xs, rfl, _, e2, e3⟩ := r1
      exact ⟨a, bs, rfl, by rw [← bools_rel e3 e]; exact .inl (.inl e2), PostE.here wf p relBl⟩
  · exact False.elim p⟩
def br_any (hc : X.calm = true) : BltRule X EW (.builtin "any") .any := ⟨_, cr_any hc, fun c h ds vs Q wf r p => by
  replace p : PostE X.K EW c Q (Res.of h (anyF ds)) := p
  unfold anyF at p
  split at p
  · rename_i l
    cases e : boolsOf l with
    | none => rw [e] at p; exact False.elim p
    | some bs =>
      rw [e] at p
      obtain ⟨v, rfl, r1⟩ := one_arg r
      unfold RelD at r1
      obtain ⟨a, xs, rfl, _, e2, e3⟩ := r1
      exact ⟨a, bs, rfl, by rw [← bools_rel e3 e]; exact .inl (.inl e2), PostE.here wf p relBl⟩
  · exact False.elim p⟩
/-- repr of data -/
def rRepr (K : PySem.W.Frag) : List V → Hp → VK → Prop := fun xs H Q => ∃ x p, xs = [x] ∧ Dp K H x p ∧ p.showable = true ∧ p.hasDict = false ∧ p.shown.length ≤ sizeLine ∧ p.depth ≤ 64 ∧ Q (.str p.shown) H
theorem call_reprD (hu : X.A.units + 200 < cLine) (hg : X.A.guards = some []) : CallR X (.builtin "repr") (rRepr X.K) := by
  intro pins s σ H xs us Q I r h
  obtain ⟨x, p, rfl, dp, h1, h2, h3, h4, q⟩ := h
  obtain ⟨u, rfl, ru⟩ := Vals.one r
  obtain ⟨as, rd⟩ := Dp.reads I p x u dp ru
  cases dp with
  | non => cases ru; exact PySem.P.repr_of_none ⟨.str _, H, I.tok _, ⟨_, rfl⟩, q⟩
  | bl b =>
    cases ru
    refine PySem.P.repr_of_bool ⟨.str _, H, I.tok _, ⟨_, rfl⟩, ?_⟩
    simpa only [PyData.shown] using q
  | int i =>
    obtain ⟨t, rfl⟩ := ru
    refine PySem.P.repr_of_int (by simpa only [PyData.showable, decide_eq_true_eq] using h1) ⟨.str _, H, I.tok _, ⟨_, rfl⟩, ?_⟩
    simpa only [PyData.shown] using q
  | str y =>
    obtain ⟨t, rfl⟩ := ru
    refine PySem.P.repr_of_str ⟨.str _, H, I.tok _, ⟨_, rfl⟩, ?_⟩ (by simpa only [PyData.shown] using h3)
    simpa only [PyData.shown] using q
  | lst _ _ =>
    cases ru
    exact repr_of_reads' rd h1 (PyData.noDict_hsm h2) hg (by omega) (fun _ _ e => e) (fun h' t tk hk => ⟨.str _, H, I.kept (h' := h') (t' := tk) hk, ⟨_, rfl⟩, q⟩) h3
  | tup _ _ =>
    cases ru
    exact repr_of_reads' rd h1 (PyData.noDict_hsm h2) hg (by omega) (fun _ _ e => e) (fun h' t tk hk => ⟨.str _, H, I.kept (h' := h') (t' := tk) hk, ⟨_, rfl⟩, q⟩) h3
def br_repr (hu : X.A.units + 200 < cLine) (hg : X.A.guards = some []) : BltRule X EW (.builtin "repr") .repr := ⟨_, call_reprD hu hg, fun c h ds vs Q wf r p => by
  replace p : PostE X.K EW c Q (Res.of h (reprF h ds)) := p
  unfold reprF at p
  split at p
  · rename_i d
    split at p
    · rename_i y e
      split at p
      · rename_i hz
        simp only [Bool.and_eq_true, Bool.not_eq_true', decide_eq_true_eq] at hz
        obtain ⟨v, rfl, r1⟩ := one_arg r
        exact ⟨v, y, rfl, dpR_of wf (r := .dat d) r1 e, hz.1.1.1, hz.1.1.2, hz.1.2, hz.2, PostE.here wf p relStr⟩
      · exact False.elim p
    · exact False.elim p
  · exact False.elim p⟩
def rToInt : List V → Hp → VK → Prop := fun xs H Q => ((∃ i, xs = [.int i] ∧ Q (.int i) H) ∨ ∃ k, xs = [.bl k] ∧ Q (.int (if k then 1 else 0)) H) ∨ (∃ a n, xs = [.str a] ∧ PySem.intText? a = some n ∧ a.length ≤ 640 ∧ Q (.int n) H)
def br_int : BltRule X EW (.type "int") .toInt := ⟨rToInt, CallR.or call_int1 call_int_str, fun c h ds vs Q wf r p => by
  replace p : PostE X.K EW c Q (Res.of h (toIntF ds)) := p
  unfold toIntF at p
  split at p
  · obtain ⟨v, rfl, r1⟩ := one_arg r
    unfold RelD at r1
    subst r1
    exact .inl (.inl ⟨_, rfl, PostE.here wf p relInt⟩)
  · obtain ⟨v, rfl, r1⟩ := one_arg r
    unfold RelD at r1
    subst r1
    exact .inl (.inr ⟨_, rfl, PostE.here wf p relInt⟩)
  · split at p
    · rename_i n e
      split at p
      · rename_i hz
        obtain ⟨v, rfl, r1⟩ := one_arg r
        unfold RelD at r1
        subst r1
        exact .inr ⟨_, n, rfl, e, hz, PostE.here wf p relInt⟩
      · exact False.elim p
    · exact False.elim p
  · exact False.elim p⟩
def br_str : BltRule X EW (.type "str") .toStr := ⟨_, call_str_int, fun c h ds vs Q wf r p => by
  replace p : PostE X.K EW c Q (Res.of h (toStrF ds)) := p
  unfold toStrF at p
  split at p
  · split at p
    · rename_i hz
      obtain ⟨v, rfl, r1⟩ := one_arg r
      unfold RelD at r1
      subst r1
      exact ⟨_, rfl, hz, PostE.here wf p relStr⟩
    · exact False.elim p
  · exact False.elim p⟩
def br_tuple : BltRule X EW (.type "tuple") .toTuple := ⟨_, call_tuple_of, fun c h ds vs Q wf r p => by
  replace p : PostE X.K EW c Q (Res.of h (toTupF h ds)) := p
  unfold toTupF at p
  split at p
  · obtain ⟨v, rfl, r1⟩ := one_arg r
    have r0 := r1
    unfold RelD at r1
    obtain ⟨a, xs, rfl, e2, e3⟩ := r1
    exact ⟨a, xs, rfl, .inr ⟨e2, PostE.here wf p r0⟩⟩
  · rename_i d _
    cases e : lv h (.dat d) with
    | none => rw [e] at p; exact False.elim p
    | some l =>
      rw [e] at p
      obtain ⟨v, rfl, r1⟩ := one_arg r
      obtain ⟨a, xs, rfl, e2, e3⟩ := lv_rel wf (r := .dat d) r1 e
      exact ⟨a, xs, rfl, .inl ⟨.inl (.inl e2), fun q hq => PostE.newT wf hq e3 p⟩⟩
  · exact False.elim p⟩
def br_list : BltRule X EW (.type "list") .toList := ⟨_, call_list_of, fun c h ds vs Q wf r p => by
  replace p : PostE X.K EW c Q (Res.of h (toLstF h ds)) := p
  unfold toLstF at p
  split at p
  · rename_i d
    cases e : sv h (.dat d) with
    | none => rw [e] at p; exact False.elim p
    | some l =>
      rw [e] at p
      obtain ⟨v, rfl, r1⟩ := one_arg r
      obtain ⟨a, xs, rfl, e2, e3⟩ := sv_rel wf (r := .dat d) r1 e
      exact ⟨a, xs, rfl, e2, fun q hq => PostE.newL wf hq e3 p⟩
  · exact False.elim p⟩
/-! ### built-ins of one thing -/
structure BltRule1 (X : Cx) (EW : EWish) (v : Value) (f : Blt) where
  r : List V → Hp → VK → Prop
  rule : CallR X v r
  prim : ∀ (c : Cfg) (h : Hh) (x : R) (u : V) (Q : VK), WF X.K c h → RelR X.K c x u → PostE X.K EW c Q (Res.of h (bltR h f x)) → r [u] c.H Q
theorem blt1_red {f : Blt} {v : Value} (R : BltRule1 X EW v f) {m : E} (σ : L2.St) (H : Hp) (Q : VK) (w : tE X.K EW C G (.blt1 f m) σ H Q) : tE X.K EW C G m σ H fun u H1 => R.r [u] H1 Q := by
  obtain ⟨He, c, h, env, rfl, wf, re, p⟩ := w
  unfold evalE at p
  exact ⟨He, c, h, env, rfl, wf, re, p.bind fun x h1 c1 u le1 wf1 r1 p1 => R.prim c1 h1 x u Q wf1 r1.1 (PostE.lift le1 p1)⟩
theorem sim_blt1 {id : String} {f : Blt} (R : BltRule1 X EW (.builtin id) f) {x : Str} {e : Expr} {m : E} {p pos : Pos} (he : PE X e (tE X.K EW C G m)) (hm : X.mg x = none) (hv : bootBuiltins x = some (.builtin id)) (hg : Gl X x := by rfl)
    (hn : x ≠ "__name__" := by decide) (hdb : (x == ("__debug__" : Str)) = false := by decide) (hs : starEach [e] X.env = (false, eval e X.env) :: starEach [] X.env := by rfl) (hpl : (backTo pos (starEach [] X.env)).any (·.1) = false := by rfl) :
    PE X (.Call (.Name x p) [e] [] pos) (tE X.K EW C G (.blt1 f m)) := (pe_callB R.rule hg hm hv (pa_cons he pa_nil hs) hn hdb hs hpl).imp fun σ H Q w => blt1_red R σ H Q w
theorem sim_blt1T {id : String} {f : Blt} (R : BltRule1 X EW (.type id) f) {x : Str} {e : Expr} {m : E} {p pos : Pos} (he : PE X e (tE X.K EW C G m)) (hm : X.mg x = none) (hv : bootBuiltins x = some (.type id)) (hg : Gl X x := by rfl)
    (hn : x ≠ "__name__" := by decide) (hdb : (x == ("__debug__" : Str)) = false := by decide) (hs : starEach [e] X.env = (false, eval e X.env) :: starEach [] X.env := by rfl) (hpl : (backTo pos (starEach [] X.env)).any (·.1) = false := by rfl) :
    PE X (.Call (.Name x p) [e] [] pos) (tE X.K EW C G (.blt1 f m)) := (pe_callTy R.rule hg hm hv (pa_cons he pa_nil hs) hn hdb hs hpl).imp fun σ H Q w => blt1_red R σ H Q w
def b1_repr (hu : X.A.units + 200 < cLine) (hg : X.A.guards = some []) : BltRule1 X EW (.builtin "repr") .repr := ⟨_, call_reprD hu hg, fun c h x u Q wf r p => by
  replace p : PostE X.K EW c Q (Res.of h (reprB h x)) := p
  unfold reprB at p
  split at p
  · rename_i y e
    split at p
    · rename_i hz
      simp only [Bool.and_eq_true, Bool.not_eq_true', decide_eq_true_eq] at hz
      exact ⟨u, y, rfl, dpR_of wf r e, hz.1.1.1, hz.1.1.2, hz.1.2, hz.2, PostE.here wf p relStr⟩
    · exact False.elim p
  · exact False.elim p⟩
def b1_len : BltRule1 X EW (.builtin "len") .len := ⟨_, call_len, fun c h x u Q wf r p => by
  replace p : PostE X.K EW c Q (Res.of h (lenB h x)) := p
  unfold lenB at p
  split at p
  · rename_i s
    split at p
    · rename_i hz
      have r1 : RelD X.K c (.str s) u := r
      unfold RelD at r1
      subst r1
      exact ⟨.str s, s.length, rfl, ⟨hz, rfl⟩, PostE.here wf p relInt⟩
    · exact False.elim p
  · cases e : sv h x with
    | none => rw [e] at p; exact False.elim p
    | some l =>
      rw [e] at p
      obtain ⟨a, xs, rfl, e2, e3⟩ := sv_rel wf r e
      refine ⟨.ref a, xs.length, rfl, ?_, by rw [← RelDs.length e3]; exact PostE.here wf p relInt⟩
      rcases e2 with e2 | e2
      · exact .inl ⟨xs, e2, rfl⟩
      · exact .inr ⟨xs, e2, rfl⟩⟩
/-! ### isinstance -/
def Ty.nm : Ty → String
  | .int => "int"
  | .bool => "bool"
  | .str => "str"
  | .tuple => "tuple"
  | .list => "list"
theorem isi_ty {c : Cfg} {h : Hh} (wf : WF X.K c h) (t : Ty) : ∀ {d : D} {v : V} {b : Bool}, RelD X.K c d v → isiF h t d = some b → ∃ T : String, TyX X.K c.H v (.type T) ∧ PySem.W.kitOne X.K (.type T) (.type t.nm) = some b
  | .non, v, b, r, e => by
    unfold RelD at r; subst r; unfold isiF at e; cases e
    exact ⟨_, .base .non, by cases t <;> exact kit_ty (by decide +kernel)⟩
  | .bl x, v, b, r, e => by
    unfold RelD at r; subst r; unfold isiF at e; cases e
    exact ⟨_, .base (.bl x), by cases t <;> exact kit_ty (by decide +kernel)⟩
  | .int x, v, b, r, e => by
    unfold RelD at r; subst r; unfold isiF at e; cases e
    exact ⟨_, .base (.int x), by cases t <;> exact kit_ty (by decide +kernel)⟩
  | .str x, v, b, r, e => by
    unfold RelD at r; subst r; unfold isiF at e; cases e
    exact ⟨_, .base (.str x), by cases t <;> exact kit_ty (by decide +kernel)⟩
  | .tup l, v, b, r, e => by
    unfold RelD at r; unfold isiF at e; cases e
    obtain ⟨a, vs, rfl, h1, _⟩ := r
    refine ⟨"tuple", ?_, by cases t <;> exact kit_ty (by decide +kernel)⟩
    rcases h1 with (h1 | ⟨o, h1⟩) | ⟨o, its, n, h1, h2, _⟩
    · exact .base (.tup h1)
    · exact .fTuple h1
    · exact .kTuple h1 h2
  | .lst l, v, b, r, e => by
    unfold RelD at r; unfold isiF at e; cases e
    obtain ⟨a, vs, rfl, _, h1, _⟩ := r
    exact ⟨"list", .base (.lst h1), by cases t <;> exact kit_ty (by decide +kernel)⟩
  | .arg l, v, b, r, e => by unfold isiF at e; cases e
  | .ref n, v, b, r, e => by
    unfold RelD at r
    simp only [isiF] at e
    obtain ⟨_, rfl⟩ := r
    split at e
    · rename_i l hl
      cases e
      obtain ⟨vs, e1, _⟩ := wf.obj n _ hl
      exact ⟨"list", .base (.lst e1), by cases t <;> exact kit_ty (by decide +kernel)⟩
    · rename_i l hl
      cases e
      obtain ⟨vs, e1, _⟩ := wf.obj n _ hl
      exact ⟨"dict", .base (.dK e1), by cases t <;> exact kit_ty (by decide +kernel)⟩
    · cases e
theorem boot_ty (t : Ty) : bootBuiltins t.nm = some (.type t.nm) := by cases t <;> decide +kernel
theorem sim_isi (t : Ty) {e : Expr} {m : E} {p p2 pos : Pos} {x2 : Str} (he : PE X e (tE X.K EW C G m)) (hm : X.mg "isinstance" = none) (hm2 : X.mg x2 = none) (hx2 : x2 = Str.ofString t.nm := by rfl) (hg : Gl X "isinstance" := by rfl) (hg2 : Gl X x2 := by rfl)
    (hn2 : x2 ≠ "__name__" := by decide) (hd2 : (x2 == ("__debug__" : Str)) = false := by decide)
    (hs : starEach [e, .Name x2 p2] X.env = (false, eval e X.env) :: starEach [.Name x2 p2] X.env := by rfl) (hs2 : starEach [.Name x2 p2] X.env = (false, eval (.Name x2 p2) X.env) :: starEach [] X.env := by rfl) (hpl : (backTo pos (starEach [.Name x2 p2] X.env)).any (·.1) = false := by rfl) :
    PE X (.Call (.Name "isinstance" p) [e, .Name x2 p2] [] pos) (tE X.K EW C G (.isi m t)) := by
  have hv : bootBuiltins x2 = some (.type t.nm) := by rw [hx2]; exact boot_ty t
  have h2 : PE X (.Name x2 p2) (tC (.ty t.nm)) := pe_bltn (v := .ty t.nm) hg2 hm2 hv rfl hn2 hd2
  refine PE.imp (pe_callB call_isi hg hm PyProof.Rows.boot_isinstance (pa_cons he (pa_cons h2 pa_nil hs2) hs) (by decide) (by decide) hs hpl) fun σ H Q w => ?_
  obtain ⟨He, c, h, env, rfl, wf, re, p⟩ := w
  unfold evalE at p
  refine ⟨He, c, h, env, rfl, wf, re, p.bind fun x h1 c1 u le1 wf1 r1 p1 => ?_⟩
  cases e1 : x.fz with
  | none => rw [e1] at p1; exact False.elim p1
  | some d =>
    rw [e1] at p1
    obtain ⟨c2, eH, le2, st2, wf2, r2⟩ := freeze_ans le1 wf1 r1 e1
    have p2 : PostE X.K EW c2 Q (Res.of h1 ((isiF h1 t d).map fun b => .dat (.bl b))) := PostE.lift le2 p1
    cases e2 : isiF h1 t d with
    | none => rw [e2] at p2; exact False.elim p2
    | some b =>
      rw [e2] at p2
      obtain ⟨T, g1, g2⟩ := isi_ty wf2 t r2 e2
      show rIsi X.K [u, .ty t.nm] c1.H Q
      rw [← eH]
      exact ⟨u, .ty t.nm, _, _, b, rfl, .ty _, g1, g2, PostE.here wf2 p2 relBl⟩
end
end Mi
/-! Mi5: places, slices, dicts, methods, what is walked, comprehensions. -/
namespace Mi
open PySem PySem.Spec PyProof.Rows L2

section
variable {X : Cx} {EW : EWish} {C : Calls'} {G : Str → Option D}
/-! ### places -/
theorem atI_rel {c : Cfg} {l : List D} {vs : List V} {i : Int} {d : D} (h : RelDs X.K c l vs) (e : atI l i = some d) : ∃ v, atI vs i = some v ∧ RelD X.K c d v := by
  unfold atI at e ⊢
  obtain ⟨j, e1, e2⟩ := Option.bind_eq_some_iff.mp e
  obtain ⟨v, e3, e4⟩ := RelDs.get h e2
  exact ⟨v, by rw [← RelDs.length h, e1]; exact e3, e4⟩
theorem prim_ix (c : Cfg) (h : Hh) (x y : R) (u v : V) (Q : VK) (wf : WF X.K c h) (r1 : RelR X.K c x u) (r2 : RelR X.K c y v) (p : PostE X.K EW c Q (Res.of h ((ixF h x y).map .dat))) : rIx X.K u v c.H Q := by
  cases e : ixF h x y with
  | none => rw [e] at p; exact False.elim p
  | some d =>
    rw [e] at p
    unfold ixF at e
    split at e
    · rename_i z i
      split at e
      · rename_i hz
        cases q : atI z.cps.toList i with
        | none => rw [q] at e; cases e
        | some n =>
          rw [q] at e; cases e
          exact .inr (.inr ⟨z, i, n, r1, r2, hz, q, PostE.here wf p relStr⟩)
      · cases e
    · rename_i i _
      obtain ⟨l, e1, e2⟩ := Option.bind_eq_some_iff.mp e
      obtain ⟨a, vs, rfl, g1, g2⟩ := sv_rel wf r1 e1
      obtain ⟨w, g3, g4⟩ := atI_rel g2 e2
      rcases g1 with g1 | g1
      · exact .inl ⟨a, vs, i, w, rfl, r2, g1, g3, PostE.here wf p g4⟩
      · exact .inr (.inl ⟨a, vs, i, w, rfl, r2, g1, g3, PostE.here wf p g4⟩)
    · cases e
theorem sim_ix {a b : Expr} {ma mb : E} {pos : Pos} (ha : PE X a (tE X.K EW C G ma)) (hb : PE X b (tE X.K EW C G mb)) (hs : PlainIx b := by exact fun _ _ => rfl) : PE X (.Subscript a b pos) (tE X.K EW C G (.ix ma mb)) :=
  (pe_ix ix_seq ha hb hs).imp (two_red (f := fun h x y => (ixF h x y).map .dat) (fun _ _ => by conv => lhs; unfold evalE) prim_ix)
/-! ### slices -/
theorem part_no : PO X none (tO X.K EW C G .no) := PO.imp po_none fun σ H Q w => by
  obtain ⟨He, c, h, env, rfl, wf, re, p⟩ := w
  unfold evalO at p
  exact p c none (Le.refl c) wf rfl
theorem part_some {e : Expr} {m : E} (he : PE X e (tE X.K EW C G m)) : PO X (some e) (tO X.K EW C G (.part m)) := PO.imp (po_some he) fun σ H Q w => by
  obtain ⟨He, c, h, env, rfl, wf, re, p⟩ := w
  unfold evalO at p
  refine ⟨He, c, h, env, rfl, wf, re, p.bind fun x h1 c1 u le1 wf1 r1 p1 => ?_⟩
  split at p1
  · rename_i i
    exact ⟨i, r1.1, p1 c1 (some i) le1 wf1 rfl⟩
  · exact False.elim p1
def rSlM (K : PySem.W.Frag) : V → Option Int → Option Int → Hp → VK → Prop := fun x lo hi H Q => rSlS x lo hi H Q ∨ (rSlA K x lo hi H Q ∨ rSlL K x lo hi H Q)
theorem sl_M : SlR X (rSlM X.K) := SlR.or sl_str (SlR.or sl_tupA sl_list)
theorem cut_rel {c : Cfg} {l : List D} {vs : List V} (h : RelDs X.K c l vs) (lo hi : Option Int) : RelDs X.K c (cutD l lo hi) (cutV vs lo hi) := by
  unfold cutD cutV
  rw [RelDs.length h]
  exact RelDs.take _ (RelDs.drop _ h)
theorem cut_whole {l : List D} {lo hi : Option Int} (h : HT.sIx l.length 0 lo = 0 ∧ HT.sIx l.length l.length hi = l.length) : cutD l lo hi = l := by
  unfold cutD
  rw [h.1, h.2, List.drop_zero, Nat.sub_zero, List.take_length]
theorem prim_sl (c : Cfg) (h : Hh) (x : R) (u : V) (lo hi : Option Int) (Q : VK) (wf : WF X.K c h) (r1 : RelR X.K c x u) (p : PostE X.K EW c Q (Res.of h (slF h lo hi x))) : rSlM X.K u lo hi c.H Q := by
  unfold slF at p
  split at p
  · rename_i z
    split at p
    · rename_i hz
      exact .inl ⟨z, r1, hz, PostE.here wf p relStr⟩
    · exact False.elim p
  · rename_i l
    have q : RelD X.K c (.tup l) u := r1
    unfold RelD at q
    obtain ⟨a, vs, rfl, g1, g2⟩ := q
    have el := RelDs.length g2
    refine .inr (.inl ⟨a, vs, rfl, g1, fun hw => ?_, fun _ b hb => PostE.newT wf hb (cut_rel g2 lo hi) p⟩)
    rw [← el] at hw
    have p' : PostE X.K EW c Q (.ok (.dat (.tup l)) h) := by
      have p2 : PostE X.K EW c Q (.ok (.dat (.tup (cutD l lo hi))) h) := p
      rw [cut_whole hw] at p2; exact p2
    exact PostE.here wf p' r1
  · cases e : lv h x with
    | none => rw [e] at p; exact False.elim p
    | some l =>
      rw [e] at p
      obtain ⟨a, vs, rfl, g1, g2⟩ := lv_rel wf r1 e
      exact .inr (.inr ⟨a, vs, rfl, .inl (.inl g1), fun b hb => PostE.newL wf hb (cut_rel g2 lo hi) p⟩)
theorem sim_sl {a : Expr} {lo hi : Option Expr} {ma : E} {ml mh : Oe} {p2 pos : Pos} (ha : PE X a (tE X.K EW C G ma)) (hl : PO X lo (tO X.K EW C G ml)) (hh : PO X hi (tO X.K EW C G mh)) :
    PE X (.Subscript a (.Slice lo hi none p2) pos) (tE X.K EW C G (.sl ma ml mh)) := (pe_slice sl_M ha hl hh).imp fun σ H Q w => by
  obtain ⟨He, c, h, env, rfl, wf, re, p⟩ := w
  unfold evalE at p
  refine ⟨He, c, h, env, rfl, wf, re, p.bind fun x h1 c1 u le1 wf1 r1 p1 => ?_⟩
  replace p1 := PostE.lift le1 p1
  refine ⟨He, c1, h1, env, rfl, wf1, re.mono le1, Post.bind (Rl1 := RO) p1 fun i h2 c2 i' le2 wf2 r2 p2 => ?_⟩
  replace p2 := PostE.lift le2 p2
  obtain rfl : i = i' := r2
  refine ⟨He, c2, h2, env, rfl, wf2, (re.mono le1).mono le2, Post.bind (Rl1 := RO) p2 fun j h3 c3 j' le3 wf3 r3 p3 => ?_⟩
  obtain rfl : j = j' := r3
  exact prim_sl c3 h3 x u i j Q wf3 (RelR.mono le3 (RelR.mono le2 r1.1)) (PostE.lift le3 p3)
/-! ### dicts -/
theorem kv_keys {c : Cfg} {k : Key} : ∀ {l : List (Key × D)} {vs : List (Key × V)}, RelKv X.K c l vs → (l.any fun kv => decide (kv.1 = k)) = (vs.any fun kv => decide (kv.1 = k))
  | [], vs, h => by unfold RelKv at h; subst h; rfl
  | (j, d) :: l, vs, h => by
    unfold RelKv at h
    obtain ⟨v, r, rfl, h1, h2⟩ := h
    simp only [List.any_cons, kv_keys h2]
theorem kv_look {c : Cfg} {k : Key} : ∀ {l : List (Key × D)} {vs : List (Key × V)} {d : D}, RelKv X.K c l vs → dLook l k = some d → ∃ v, valV vs k = some v ∧ RelD X.K c d v
  | [], vs, d, h, e => by simp [dLook] at e
  | (j, d') :: l, vs, d, h, e => by
    unfold RelKv at h
    obtain ⟨v, r, rfl, h1, h2⟩ := h
    by_cases hj : j = k
    · have e' : some d' = some d := by rw [← e]; simp [dLook, List.find?_cons, hj]
      cases e'
      exact ⟨v, valV_pos (p := (j, v)) hj, h1⟩
    · have e' : dLook l k = some d := by rw [← e]; simp [dLook, List.find?_cons, hj]
      obtain ⟨w, g1, g2⟩ := kv_look h2 e'
      exact ⟨w, by rw [valV_neg (p := (j, v)) hj]; exact g1, g2⟩
theorem kv_map {c : Cfg} {k : Key} {d : D} {v : V} (hd : RelD X.K c d v) : ∀ {l : List (Key × D)} {vs : List (Key × V)}, RelKv X.K c l vs → RelKv X.K c (l.map fun kv => if kv.1 = k then (kv.1, d) else kv) (vs.map fun kv => if kv.1 = k then (kv.1, v) else kv)
  | [], vs, h => by unfold RelKv at h; subst h; simp [RelKv]
  | (j, d') :: l, vs, h => by
    unfold RelKv at h
    obtain ⟨u, r, rfl, h1, h2⟩ := h
    rw [List.map_cons, List.map_cons]
    by_cases hj : j = k
    · simp only [hj, if_true]
      unfold RelKv
      exact ⟨v, _, rfl, hd, kv_map hd h2⟩
    · simp only [hj, if_false]
      unfold RelKv
      exact ⟨u, _, rfl, h1, kv_map hd h2⟩
theorem kv_snoc {c : Cfg} {k : Key} {d : D} {v : V} (hd : RelD X.K c d v) : ∀ {l : List (Key × D)} {vs : List (Key × V)}, RelKv X.K c l vs → RelKv X.K c (l ++ [(k, d)]) (vs ++ [(k, v)])
  | [], vs, h => by
    unfold RelKv at h; subst h
    show RelKv X.K c [(k, d)] [(k, v)]
    unfold RelKv
    exact ⟨v, [], rfl, hd, by unfold RelKv; rfl⟩
  | (j, d') :: l, vs, h => by
    unfold RelKv at h
    obtain ⟨u, r, rfl, h1, h2⟩ := h
    show RelKv X.K c ((j, d') :: (l ++ [(k, d)])) ((j, u) :: (r ++ [(k, v)]))
    unfold RelKv
    exact ⟨u, _, rfl, h1, kv_snoc hd h2⟩
theorem kv_put {c : Cfg} {k : Key} {d : D} {v : V} {l : List (Key × D)} {vs : List (Key × V)} (h : RelKv X.K c l vs) (hd : RelD X.K c d v) : RelKv X.K c (dPut l k d) (putK vs k v) := by
  unfold dPut putK
  rw [kv_keys h]
  split
  · exact kv_map hd h
  · exact kv_snoc hd h
theorem kv_length {c : Cfg} : ∀ {l : List (Key × D)} {vs : List (Key × V)}, RelKv X.K c l vs → l.length = vs.length
  | [], vs, h => by unfold RelKv at h; subst h; rfl
  | (j, d) :: l, vs, h => by
    unfold RelKv at h
    obtain ⟨v, r, rfl, h1, h2⟩ := h
    simp [kv_length h2]
theorem kv_zip {c : Cfg} : ∀ {ks : List Key} {ds : List D} {vs : List V}, RelDs X.K c ds vs → RelKv X.K c (ks.zip ds) (ks.zip vs)
  | [], ds, vs, h => by simp [RelKv]
  | k :: ks, [], vs, h => by unfold RelDs at h; subst h; simp [RelKv]
  | k :: ks, d :: ds, vs, h => by
    unfold RelDs at h
    obtain ⟨v, r, rfl, h1, h2⟩ := h
    show RelKv X.K c ((k, d) :: ks.zip ds) ((k, v) :: ks.zip r)
    unfold RelKv
    exact ⟨v, _, rfl, h1, kv_zip h2⟩
theorem key_rel {c : Cfg} {d : D} {v : V} {k : Key} (h : RelD X.K c d v) (e : keyOf d = some k) : v = kV k := by
  cases d with
  | int i => unfold keyOf at e; cases e; unfold RelD at h; exact h
  | str i => unfold keyOf at e; cases e; unfold RelD at h; exact h
  | _ => unfold keyOf at e; cases e
theorem dct_rel {c : Cfg} {h : Hh} {x : R} {v : V} {l : List (Key × D)} (wf : WF X.K c h) (hr : RelR X.K c x v) (e : dctOf h x = some l) : ∃ a kvs, v = .ref a ∧ c.H a = some (.dK kvs) ∧ RelKv X.K c l kvs := by
  unfold dctOf at e
  split at e
  · rename_i n
    split at e
    · rename_i l' hl
      cases e
      have hr' : RelD X.K c (.ref n) v := hr
      unfold RelD at hr'
      obtain ⟨kvs, g1, g2⟩ := wf.obj n _ hl
      exact ⟨_, kvs, hr'.2, g1, g2⟩
    · cases e
  · cases e
theorem prim_dget (c : Cfg) (h : Hh) (x y : R) (u v : V) (Q : VK) (wf : WF X.K c h) (r1 : RelR X.K c x u) (r2 : RelR X.K c y v) (p : PostE X.K EW c Q (Res.of h ((dgetF h x y).map .dat))) : ∃ a w, u = .ref a ∧ DGet c.H a v (some w) ∧ Q w c.H := by
  cases e : dgetF h x y with
  | none => rw [e] at p; exact False.elim p
  | some d =>
    rw [e] at p
    unfold dgetF at e
    split at e
    · rename_i l k e1
      obtain ⟨j, e2, e3⟩ := Option.bind_eq_some_iff.mp e
      obtain ⟨a, kvs, rfl, g1, g2⟩ := dct_rel wf r1 e1
      obtain ⟨w, g3, g4⟩ := kv_look g2 e3
      rw [key_rel r2 e2]
      exact ⟨a, w, rfl, by rw [← g3]; exact DGet.k g1, PostE.here wf p g4⟩
    · cases e
theorem sim_dget (hu : X.A.units + 200 < cLine) {a b : Expr} {ma mb : E} {pos : Pos} (ha : PE X a (tE X.K EW C G ma)) (hb : PE X b (tE X.K EW C G mb)) (hs : NoSl b := by exact fun _ _ => rfl) : PE X (.Subscript a b pos) (tE X.K EW C G (.dget ma mb)) :=
  (pe_dget (by omega) ha hb hs).imp (two_red (r := fun u v H Q => ∃ a w, u = .ref a ∧ DGet H a v (some w) ∧ Q w H) (f := fun h x y => (dgetF h x y).map .dat) (fun _ _ => by conv => lhs; unfold evalE) prim_dget)
/-- an object that nobody else has is written -/
theorem any_sta {c : Cfg} {a : Addr} {o ho : HO} (h1 : c.H a = some o) (ht : ∀ xs, o ≠ .tup xs) (hf : ∀ ob u, o ≠ .frz ob u) (h2 : ¬ c.F a) : Sta c (c.put a ho) := by
  refine ⟨Nat.le_refl _, fun _ _ => rfl, fun _ h => h, fun x o' hF hx => ?_, fun x xs hx => ?_, fun x o' u hx => ?_⟩
  · show upd c.H a _ x = _
    rw [upd_ne (fun e => h2 (by rw [← e]; exact hF))]; exact hx
  · show upd c.H a _ x = _
    rw [upd_ne (fun e => by rw [e, h1] at hx; exact ht _ (Option.some.inj hx))]; exact hx
  · show upd c.H a _ x = _
    rw [upd_ne (fun e => by rw [e, h1] at hx; exact hf _ _ (Option.some.inj hx))]; exact hx
theorem any_le {c c0 : Cfg} (le : Le c0 c) {a : Addr} {o ho : HO} (h0 : c0.H a = none) (h1 : c.H a = some o) (ht : ∀ xs, o ≠ .tup xs) (hf : ∀ ob u, o ≠ .frz ob u) (h2 : ¬ c.F a) : Le c0 (c.put a ho) := by
  have st := any_sta (ho := ho) h1 ht hf h2
  refine ⟨le.toSta.trans st, le.newF, le.newR, fun x o' hx hr => ?_, fun x hx => ?_⟩
  · show upd c.H a _ x = _
    rw [upd_ne (fun e => by rw [e, h0] at hx; cases hx)]
    exact le.keep x o' hx hr
  · show upd c.H a _ x ≠ _
    by_cases e : x = a
    · rw [e, upd_same]; simp
    · rw [upd_ne e]; exact le.stay x hx
theorem any_wf {c : Cfg} {h : Hh} (wf : WF X.K c h) {a : Addr} {o ho : HO} (h1 : c.H a = some o) (ht : ∀ xs, o ≠ .tup xs) (hf : ∀ ob u, o ≠ .frz ob u) (h2 : ¬ c.F a) (h3 : ∀ k, k < c.n → c.r k ≠ a) : WF X.K (c.put a ho) h := by
  have st := any_sta (ho := ho) h1 ht hf h2
  refine ⟨wf.sz, fun k o' hk => ?_, wf.inj, wf.nF, fun x hx => ?_⟩
  · have hk' : k < c.n := by rw [wf.sz]; exact (List.getElem?_eq_some_iff.mp hk).1
    have e : (c.put a ho).H ((c.put a ho).r k) = c.H (c.r k) := upd_ne (h3 k hk')
    rw [e]
    exact RelO.mono st _ _ (wf.obj k o' hk)
  · obtain ⟨us, q⟩ := wf.fl x hx
    exact ⟨us, st.fls x _ hx q⟩
/-- the readings of a display's pairs -/
def trsOf (K : PySem.W.Frag) (EW : EWish) (C : Calls') (G : Str → Option D) : List Key → Es → List (TE × TE)
  | k :: ks, .cons m ms => (tC (kV k), tE K EW C G m) :: trsOf K EW C G ks ms
  | _, _ => []
theorem merge_nodup : ∀ (more kvs : List (Key × V)), ((kvs ++ more).map (·.1)).Nodup → mergeK kvs more = kvs ++ more
  | [], kvs, _ => by simp [mergeK]
  | (k, v) :: more, kvs, h => by
    have hn : valV kvs k = none := by
      have : k ∉ kvs.map (·.1) := by
        intro hk
        rw [List.map_append, List.map_cons] at h
        have := List.nodup_append.mp h
        exact this.2.2 k hk k (by simp) rfl
      unfold valV
      rw [Option.map_eq_none_iff, List.find?_eq_none]
      intro p hp
      simp only [decide_eq_true_eq]
      exact fun e => this (by rw [← e]; exact List.mem_map_of_mem hp)
    show mergeK (putK kvs k v) more = _
    rw [putK_new v hn, merge_nodup more (kvs ++ [(k, v)]) (by simpa using h)]
    simp
def pairsOf (ks : List Key) (vs : List V) : List (V × V) := (ks.zip vs).map fun kv => (kV kv.1, kv.2)
theorem pairs_red : ∀ (ks : List Key) (ms : Es), ms.len = ks.length → ∀ (Qf : List (V × V) → Hp → Prop) (He : Hp) (c : Cfg) (h : Hh) (env : Env') (σ : L2.St), WF X.K c h → RelEnv X.K He c env σ →
    Post X.K EW c (RA X.K) (fun vs H => Qf (pairsOf ks vs) H) (evalEs C G ms env h) → tPairs (trsOf X.K EW C G ks ms) σ c.H Qf
  | [], .nil, _, Qf, He, c, h, env, σ, wf, re, p => by
    unfold evalEs at p
    exact p c [] (Le.refl c) wf RelDs.nil
  | [], .cons _ _, hl, _, _, _, _, _, _, _, _, _ => by simp [Es.len] at hl
  | _ :: _, .nil, hl, _, _, _, _, _, _, _, _, _ => by simp [Es.len] at hl
  | k :: ks, .cons m ms, hl, Qf, He, c, h, env, σ, wf, re, p => by
    unfold evalEs at p
    refine ⟨He, c, h, env, rfl, wf, re, p.bind fun x h1 c1 u le1 wf1 r1 p1 => ?_⟩
    cases e : x.fz with
    | none => rw [e] at p1; exact False.elim p1
    | some d =>
      rw [e] at p1
      obtain ⟨c2, eH, le2, st2, wf2, r2⟩ := freeze_ans le1 wf1 r1 e
      have p2 := Post.lift le2 (fun _ _ _ h => h) p1
      have hl' : ms.len = ks.length := by simpa [Es.len] using hl
      have p3 : Post X.K EW c2 (RA X.K) (fun vs H => Qf ((kV k, u) :: pairsOf ks vs) H) (evalEs C G ms env h1) := Post.bind (Rl1 := RA X.K) p2 fun ds h2 c3 vs le3 wf3 r3 p3 => p3 c3 (u :: vs) le3 wf3 (RelDs.cons (RelD.mono le3.toSta _ _ r2) r3)
      rw [← eH]
      exact pairs_red ks ms hl' (fun ps H => Qf ((kV k, u) :: ps) H) He c2 h1 env σ wf2 (re.mono le2) p3
theorem zip_fst_sub : ∀ (ks : List Key) (vs : List V), ((ks.zip vs).map (·.1)).Sublist ks
  | [], _ => by simp
  | k :: ks, [] => by simp
  | k :: ks, v :: vs => by
    show (k :: (ks.zip vs).map (·.1)).Sublist (k :: ks)
    exact (zip_fst_sub ks vs).cons_cons k
theorem sim_dct {keys : List (Option Expr)} {values : List Expr} {ks : List Key} {ms : Es} {pos : Pos} (hp : PPs X pos keys values (trsOf X.K EW C G ks ms)) (hall : keys.all (·.isSome) = true := by rfl) (hl : keys.length = values.length := by rfl) (h0 : keys ≠ [] := by exact fun z => by cases z)
    (h15 : keys.length ≤ 15 := by decide) (hn : ms.len = ks.length := by rfl) : PE X (.Dict keys values pos) (tE X.K EW C G (.dct ks ms)) := (pe_disp hp hall hl h0 h15).imp fun σ H Q w => by
  obtain ⟨He, c, h, env, rfl, wf, re, p⟩ := w
  unfold evalE at p
  intro a ha
  have le0 := put_le wf ha (.dK [])
  have wf0 := put_wf wf ha (.dK [])
  refine pairs_red ks ms hn _ He (c.put a (.dK [])) h env σ wf0 (re.mono le0) (Post.bind2 (Rl1 := RA X.K) p le0 fun ds h1 c1 vs le1 wf1 r1 p1 => ?_)
  have na : ∀ k, k < c.n → c.r k ≠ a := fun k hk e => wf.some hk (by rw [e]; exact ha)
  have h1a : c1.H a = some (.dK []) := le1.keep a _ upd_same na
  have nF : ¬ c1.F a := fun z => by
    obtain ⟨us, q⟩ := wf1.fl a z
    rw [h1a] at q; cases q
  have nr : ∀ k, k < c1.n → c1.r k ≠ a := fun k hk e => by
    by_cases hk2 : k < c.n
    · have := le1.rho k hk2
      rw [this] at e
      exact na k hk2 e
    · have z := le1.newR k (Nat.le_of_not_lt hk2) hk
      rw [e] at z
      have : (c.put a (.dK [])).H a = some (.dK []) := upd_same
      rw [this] at z; cases z
  split at p1
  · rename_i hz
    have em : mergeK [] (ks.zip vs) = ks.zip vs := merge_nodup (ks.zip vs) [] (by
      show ((ks.zip vs).map (·.1)).Nodup
      exact hz.2.sublist (zip_fst_sub ks vs))
    refine ⟨h1a, ks.zip vs, rfl, by rw [List.length_zip]; omega, ?_⟩
    rw [em]
    have le01 : Le c c1 := le0.trans le1
    have st2 := any_sta (ho := .dK (ks.zip vs)) h1a (fun _ z => by cases z) (fun _ _ z => by cases z) nF
    have le2 := any_le (ho := .dK (ks.zip vs)) le01 ha h1a (fun _ z => by cases z) (fun _ _ z => by cases z) nF
    have wf2 := any_wf (ho := .dK (ks.zip vs)) wf1 h1a (fun _ z => by cases z) (fun _ _ z => by cases z) nF nr
    have wf3 := grow_wf (a := a) (o := .dct (ks.zip ds)) wf2 ⟨ks.zip vs, upd_same, kv_zip (RelDs.mono st2 _ _ r1)⟩ nF nr
    refine p1 _ (.ref a) (grow_le le2 ha) wf3 ⟨?_, True.intro⟩
    show RelD X.K _ (.ref _) _
    unfold RelD
    have e : (c1.put a (.dK (ks.zip vs))).n = h1.length := wf2.sz
    rw [← e]
    exact ⟨Nat.lt_succ_self _, by rw [grow_n]⟩
  · exact False.elim p1
theorem sim_dct0 {pos : Pos} : PE X (.Dict [] [] pos) (tE X.K EW C G (.dct [] .nil)) := PE.imp pe_dnewK fun σ H Q w => by
  obtain ⟨He, c, h, env, rfl, wf, re, p⟩ := w
  unfold evalE evalEs at p
  intro a ha
  have le := put_le wf ha (.dK [])
  have wf2 := put_wf wf ha (.dK [])
  have nF : ¬ (c.put a (.dK [])).F a := fun z => by
    obtain ⟨us, q⟩ := wf.fl a z
    rw [ha] at q; cases q
  have nr : ∀ k, k < c.n → c.r k ≠ a := fun k hk e => wf.some hk (by rw [e]; exact ha)
  have wf3 := grow_wf (a := a) (o := .dct []) wf2 ⟨[], upd_same, by unfold RelKv; rfl⟩ nF nr
  refine p _ (.ref a) (grow_le le ha) wf3 ⟨?_, True.intro⟩
  show RelD X.K _ (.ref _) _
  unfold RelD
  have e : (c.put a (.dK [])).n = h.length := wf2.sz
  rw [← e]
  exact ⟨Nat.lt_succ_self _, by rw [grow_n]⟩
/-! ### methods of texts -/
def MthPrim (X : Cx) (EW : EWish) (m : Mth) (r : V → List V → Hp → VK → Prop) : Prop :=
  ∀ (c : Cfg) (h : Hh) (a : Str) (e : D) (v : V) (Q : VK), WF X.K c h → RelD X.K c e v → PostE X.K EW c Q (Res.of h (mthF m a [e])) → r (.str a) [v] c.H Q
theorem mth_red {m : Mth} {r : V → List V → Hp → VK → Prop} (pr : MthPrim X EW m r) {mo me : E} : ∀ σ H Q, tE X.K EW C G (.mth m mo (.cons me .nil)) σ H Q → tM1 r (tE X.K EW C G mo) (tE X.K EW C G me) σ H Q := fun σ H Q w => by
  obtain ⟨He, c, h, env, rfl, wf, re, p⟩ := w
  unfold evalE at p
  refine ⟨He, c, h, env, rfl, wf, re, p.bind fun x h1 c1 u le1 wf1 r1 p1 => ?_⟩
  replace p1 := PostE.lift le1 p1
  split at p1
  · rename_i a
    have q : RelD X.K c1 (.str a) u := r1.1
    unfold RelD at q
    subst q
    refine ⟨⟨a, rfl⟩, ?_⟩
    unfold evalEs evalEs at p1
    refine ⟨He, c1, h1, env, rfl, wf1, re.mono le1, ?_⟩
    cases q1 : evalE C G me env h1 with
    | bad => rw [q1] at p1; exact p1
    | ex y h2 => rw [q1] at p1; exact p1
    | ok y h2 =>
      rw [q1] at p1
      intro c2 v le2 wf2 r2
      simp only [Res.bind] at p1
      cases e : y.fz with
      | none => rw [e] at p1; exact False.elim p1
      | some d =>
        rw [e] at p1
        obtain ⟨c3, eH, le3, st3, wf3, r3⟩ := freeze_ans le2 wf2 r2 e
        rw [← eH]
        exact pr c3 h2 a d v Q wf3 r3 (PostE.lift le3 p1)
  · exact False.elim p1
theorem strs_rel {c : Cfg} : ∀ {l : List D} {vs : List V} {ys : List Str}, RelDs X.K c l vs → strsOf l = some ys → vs = ys.map V.str
  | [], vs, bs, h, e => by unfold RelDs at h; unfold strsOf at e; cases e; exact h
  | d :: l, vs, bs, h, e => by
    unfold RelDs at h
    obtain ⟨v, r, rfl, h1, h2⟩ := h
    cases d with
    | str b =>
      unfold strsOf at e
      cases q : strsOf l with
      | none => rw [q] at e; cases e
      | some bs' =>
        rw [q] at e; cases e
        unfold RelD at h1
        rw [h1, strs_rel h2 q] <;> rfl
    | _ => unfold strsOf at e; cases e
theorem rel_strs {c : Cfg} : ∀ (ys : List Str), RelDs X.K c (ys.map .str) (ys.map V.str)
  | [] => RelDs.nil
  | y :: ys => RelDs.cons (by unfold RelD; rfl) (rel_strs ys)
theorem sim_split {o e : Expr} {mo me : E} {apos pos : Pos} (ho : PE X o (tE X.K EW C G mo)) (he : PE X e (tE X.K EW C G me)) (hs : starEach [e] X.env = [(false, eval e X.env)] := by rfl)
    (hbase : attributeBase o "split" X.env (eval o X.env) = eval o X.env := by rfl) (hline : (apos.endLine == pos.line) = true := by rfl) : PE X (.Call (.Attribute o "split" apos) [e] [] pos) (tE X.K EW C G (.mth .split mo (.cons me .nil))) :=
  PE.imp (pe_split ho he hs hbase hline) (mth_red fun c h a d v Q wf r p => by
    replace p : PostE X.K EW c Q (Res.of h (splitF a [d])) := p
    unfold splitF at p
    split at p
    · rename_i b hb
      cases hb
      split at p
      · rename_i hz
        unfold RelD at r
        subst r
        exact ⟨a, b, rfl, rfl, hz.1, hz.2, fun q hq => PostE.newL wf hq (rel_strs _) (by assumption)⟩
      · exact False.elim p
    · exact False.elim p)
theorem sim_index {o e : Expr} {mo me : E} {apos pos : Pos} (ho : PE X o (tE X.K EW C G mo)) (he : PE X e (tE X.K EW C G me)) (hs : starEach [e] X.env = [(false, eval e X.env)] := by rfl)
    (hbase : attributeBase o "index" X.env (eval o X.env) = eval o X.env := by rfl) (hline : (apos.endLine == pos.line) = true := by rfl) : PE X (.Call (.Attribute o "index" apos) [e] [] pos) (tE X.K EW C G (.mth .index mo (.cons me .nil))) :=
  PE.imp (pe_m1 PySem.F.slot_str_index PySem.F.type_str_index mt_sindex ho he hs hbase hline) (mth_red fun c h a d v Q wf r p => by
    replace p : PostE X.K EW c Q (Res.of h (indexF a [d])) := p
    unfold indexF at p
    split at p
    · rename_i b hb
      cases hb
      split at p
      · rename_i i rest e
        unfold RelD at r
        subst r
        exact ⟨a, b, i, rest, rfl, rfl, e, PostE.here wf p relInt⟩
      · exact False.elim p
    · exact False.elim p)
theorem sim_join {o e : Expr} {mo me : E} {apos pos : Pos} (ho : PE X o (tE X.K EW C G mo)) (he : PE X e (tE X.K EW C G me)) (hs : starEach [e] X.env = [(false, eval e X.env)] := by rfl)
    (hbase : attributeBase o "join" X.env (eval o X.env) = eval o X.env := by rfl) (hline : (apos.endLine == pos.line) = true := by rfl) : PE X (.Call (.Attribute o "join" apos) [e] [] pos) (tE X.K EW C G (.mth .join mo (.cons me .nil))) :=
  PE.imp (pe_join ho he hs hbase hline) (mth_red fun c h a d v Q wf r p => by
    replace p : PostE X.K EW c Q (Res.of h (joinF a [d])) := p
    unfold joinF at p
    split at p
    · rename_i l hb
      cases hb
      split at p
      · rename_i ys e1
        split at p
        · rename_i hz
          unfold RelD at r
          obtain ⟨b, vs, rfl, _, g1, g2⟩ := r
          exact ⟨a, b, ys, rfl, rfl, .inl (by rw [← strs_rel g2 e1]; exact .inl (.inl g1)), hz, PostE.here wf p relStr⟩
        · exact False.elim p
      · exact False.elim p
    · exact False.elim p)
/-! ### what is walked -/
/-- at each turn the next of these data, then an end, whatever else goes on -/
def ItOk (K : PySem.W.Frag) (c0 : Cfg) (ds : List D) (J : L2.It) : Prop := ∀ (c : Cfg) (h : Hh), Sta c0 c → WF K c h → ∀ i,
  (∀ d, ds[i]? = some d → J.go i c.H ∧ ∀ x H', J.yld i c.H x H' → ∃ c', c'.H = H' ∧ Le c c' ∧ WF K c' h ∧ RelD K c' d x) ∧ (ds.length ≤ i → J.stop i c.H)
end
def tI (K : PySem.W.Frag) (EW : EWish) (C : Calls') (G : Str → Option D) (it : Iter) : TI := fun σ H R => ∃ (He : Hp) (c : Cfg) (h : Hh) (env : Env'), c.H = H ∧ WF K c h ∧ RelEnv K He c env σ ∧ Post K EW c (fun c' ds J => ItOk K c' ds J) R (evalI C G it env h)
section
variable {X : Cx} {EW : EWish} {C : Calls'} {G : Str → Option D}
theorem itl_ok {c : Cfg} {h : Hh} (wf : WF X.K c h) {a : Addr} {vs : List V} {l : List D} (hF : c.F a) (h1 : c.H a = some (.lst vs)) (h2 : RelDs X.K c l vs) : ItOk X.K c l (Itl X.K a) := fun c' h' st wf' i => by
  have e1 : c'.H a = some (.lst vs) := st.fls a _ hF h1
  have sq : SqL X.K c'.H a vs := .inl (.inl e1)
  have r := RelDs.mono st _ _ h2
  refine ⟨fun d hd => ?_, fun hi => ⟨vs, sq, by rw [← RelDs.length h2]; exact hi⟩⟩
  obtain ⟨v, e2, r2⟩ := RelDs.get r hd
  refine ⟨⟨vs, v, sq, e2⟩, fun x H' y => ?_⟩
  obtain ⟨rfl, y⟩ := y
  have e3 := y vs sq
  rw [e2] at e3
  cases e3
  exact ⟨c', rfl, Le.refl c', wf', r2⟩
theorem itla_ok {c : Cfg} {h : Hh} (wf : WF X.K c h) {a : Addr} {vs : List V} {l : List D} (h1 : ArgL X.K c.H a vs) (h2 : RelDs X.K c l vs) : ItOk X.K c l (Itl X.K a) := fun c' h' st wf' i => by
  have sq : SqL X.K c'.H a vs := (argL_sta st h1).seq
  have r := RelDs.mono st _ _ h2
  refine ⟨fun d hd => ?_, fun hi => ⟨vs, sq, by rw [← RelDs.length h2]; exact hi⟩⟩
  obtain ⟨v, e2, r2⟩ := RelDs.get r hd
  refine ⟨⟨vs, v, sq, e2⟩, fun x H' y => ?_⟩
  obtain ⟨rfl, y⟩ := y
  have e3 := y vs sq
  rw [e2] at e3
  cases e3
  exact ⟨c', rfl, Le.refl c', wf', r2⟩
theorem itt_ok {c : Cfg} {h : Hh} (wf : WF X.K c h) {a : Addr} {vs : List V} {l : List D} (h1 : SqT X.K c.H a vs) (h2 : RelDs X.K c l vs) : ItOk X.K c l (Itt X.K a) := fun c' h' st wf' i => by
  have sq : SqT X.K c'.H a vs := sqT_sta st h1
  have r := RelDs.mono st _ _ h2
  refine ⟨fun d hd => ?_, fun hi => ⟨vs, sq, by rw [← RelDs.length h2]; exact hi⟩⟩
  obtain ⟨v, e2, r2⟩ := RelDs.get r hd
  refine ⟨⟨vs, v, sq, e2⟩, fun x H' y => ?_⟩
  obtain ⟨rfl, y⟩ := y
  have e3 := y vs sq
  rw [e2] at e3
  cases e3
  exact ⟨c', rfl, Le.refl c', wf', r2⟩
/-- a list's address, frozen where it is new -/
theorem itL_rel {c0 c : Cfg} {h : Hh} {x : R} {v : V} {l : List D} (le : Le c0 c) (wf : WF X.K c h) (hr : RE X.K c0 c x v) (e : itL x = some l) :
    ∃ c', c'.H = c.H ∧ Le c0 c' ∧ WF X.K c' h ∧ ∃ a, v = .ref a ∧ (∃ xs, SqL X.K c.H a xs) ∧ ∃ vs, RelDs X.K c' l vs ∧ ((c'.F a ∧ c'.H a = some (.lst vs)) ∨ ArgL X.K c'.H a vs) := by
  unfold itL at e
  split at e
  · cases e
    have q : RelD X.K c (.lst l) v := hr.1
    unfold RelD at q
    obtain ⟨a, vs, rfl, g0, g1, g2⟩ := q
    exact ⟨c, rfl, le, wf, a, rfl, ⟨vs, .inl (.inl g1)⟩, vs, g2, .inl ⟨g0, g1⟩⟩
  · cases e
    have q : RelD X.K c (.arg l) v := hr.1
    unfold RelD at q
    obtain ⟨a, vs, rfl, g1, g2⟩ := q
    exact ⟨c, rfl, le, wf, a, rfl, ⟨vs, g1.seq⟩, vs, g2, .inr g1⟩
  · cases e
    obtain ⟨⟨a, vs, rfl, g1, g2, g3, g4⟩, g5⟩ := hr
    exact ⟨c.freeze a, rfl, freeze_le le g5, freeze_wf wf g1 g3, a, rfl, ⟨vs, .inl (.inl g1)⟩, vs, RelDs.mono freeze_sta _ _ g4, .inl ⟨.inr rfl, g1⟩⟩
  · cases e
/-- a list, a tuple or a text walked -/
def iAny (K : PySem.W.Frag) (tl : TE) : TI := fun σ H R => tl σ H fun x H1 =>
  (∃ a, x = .ref a ∧ (∃ xs, SqL K H1 a xs) ∧ R (Itl K a) H1) ∨ (∃ a, x = .ref a ∧ (∃ xs, SqT K H1 a xs) ∧ R (Itt K a) H1) ∨ ∃ z, x = .str z ∧ R (Its z) H1
theorem pi_any {tg l : Expr} {tl : TE} (hl : PE X l tl) : PI X tg l (iAny X.K tl) := by
  refine ⟨fun pins s σ H R I w => thn (hl.run pins s σ H _ I w) fun v s1 ⟨x, H1, I1, r1, q1⟩ => ?_⟩
  rcases q1 with ⟨a, rfl, ⟨xs, hq⟩, q⟩ | ⟨a, rfl, ⟨xs, hq⟩, q⟩ | ⟨z, rfl, q⟩
  · cases r1
    obtain ⟨its, rv, p, hz⟩ := I1.list hq
    exact wpAny_pyIter_list p.isList (pi_one (tk := s1.toks) I1 _ (turn_list a _) ⟨_, Heap.get?_push_size _ rfl, rfl, rfl⟩ q)
  · cases r1
    obtain ⟨its, rv, p, hz⟩ := I1.tuple hq
    exact wpAny_pyIter_tuple (show s1.heap.IsTuple a its.toArray from p) (pi_one (tk := s1.toks) I1 _ (turn_tuple a _) ⟨_, Heap.get?_push_size _ rfl, rfl, rfl⟩ q)
  · obtain ⟨t, rfl⟩ := r1
    cases ha : z.cps.all (· < 128) with
    | false => exact wpAny_pyIter_wide ha (pi_one (tk := s1.toks) I1 _ (turn_str _ z t "str_iterator" (.inr rfl)) ⟨_, Heap.get?_push_size _ rfl, rfl, rfl⟩ q)
    | true => exact wpAny_pyIter_ascii ha (pi_one (tk := s1.toks) I1 _ (turn_str _ z t "str_ascii_iterator" (.inl rfl)) ⟨_, Heap.get?_push_size _ rfl, rfl, rfl⟩ q)
theorem its_ok {c : Cfg} {z : Str} : ItOk X.K c (signsL z) (Its z) := fun c' h' st wf' i => by
  have el : (signsL z).length = z.cps.size := by simp [signsL]
  refine ⟨fun d hd => ?_, fun hi => by rw [el] at hi; exact hi⟩
  have hi : i < z.cps.size := by rw [← el]; exact (List.getElem?_eq_some_iff.mp hd).1
  refine ⟨hi, fun x H' y => ?_⟩
  obtain ⟨rfl, n, e1, rfl⟩ := y
  refine ⟨c', rfl, Le.refl c', wf', ?_⟩
  have e2 : (signsL z)[i]? = some (.str ⟨#[n]⟩) := by
    unfold signsL
    rw [List.getElem?_map, Array.getElem?_toList, e1]
    rfl
  rw [e2] at hd
  cases hd
  unfold RelD
  rfl
theorem it_seq {tg l : Expr} {m : E} (hl : PE X l (tE X.K EW C G m)) : PI X tg l (tI X.K EW C G (.seq m)) := PI.imp (pi_any hl) fun σ H R' w => by
  obtain ⟨He, c, h, env, rfl, wf, re, p⟩ := w
  unfold evalI at p
  refine ⟨He, c, h, env, rfl, wf, re, p.bind fun x h1 c1 u le1 wf1 r1 p1 => ?_⟩
  cases e : itF x with
  | none => rw [e] at p1; exact False.elim p1
  | some l' =>
    rw [e] at p1
    have lst : ∀ l'', itL x = some l'' → l'' = l' → (∃ a, u = .ref a ∧ (∃ xs, SqL X.K c1.H a xs) ∧ R' (Itl X.K a) c1.H) := fun l'' e2 e3 => by
      subst e3
      obtain ⟨c2, eH, le2, wf2, a, rfl, sq, vs, g1, g2⟩ := itL_rel le1 wf1 r1 e2
      refine ⟨a, rfl, sq, ?_⟩
      rw [← eH]
      refine p1 c2 _ le2 wf2 ?_
      rcases g2 with ⟨g2, g3⟩ | g2
      · exact itl_ok wf2 g2 g3 g1
      · exact itla_ok wf2 g2 g1
    unfold itF at e
    split at e
    · cases e
      have q : RelD X.K c1 (.tup l') u := r1.1
      unfold RelD at q
      obtain ⟨a, vs, rfl, g1, g2⟩ := q
      exact .inr (.inl ⟨a, rfl, ⟨vs, g1⟩, p1 c1 _ le1 wf1 (itt_ok wf1 g1 g2)⟩)
    · cases e
      exact .inl (lst _ rfl rfl)
    · cases e
      exact .inl (lst _ rfl rfl)
    · rename_i z
      cases e
      have q : RelD X.K c1 (.str z) u := r1.1
      unfold RelD at q
      exact .inr (.inr ⟨z, q, p1 c1 _ le1 wf1 its_ok⟩)
    · cases e
      exact .inl (lst _ rfl rfl)
    · cases e
theorem rng_get {lo : Int} {n i : Nat} {d : D} (h : (rngL lo n)[i]? = some d) : i < n ∧ d = .int (lo + (i : Nat)) := by
  unfold rngL at h
  have hi : i < n := by
    have := (List.getElem?_eq_some_iff.mp h).1
    simpa using this
  refine ⟨hi, ?_⟩
  rw [List.getElem?_map, List.getElem?_range hi] at h
  cases h
  rfl
theorem itr_ok {c : Cfg} {lo : Int} {n : Nat} : ItOk X.K c (rngL lo n) (Itr lo n) := fun c' h' st wf' i => by
  refine ⟨fun d hd => ?_, fun hi => by
    have : n ≤ i := by simpa [rngL] using hi
    exact this⟩
  obtain ⟨hi, rfl⟩ := rng_get hd
  refine ⟨hi, fun x H' y => ?_⟩
  obtain ⟨rfl, rfl⟩ := y
  exact ⟨c', rfl, Le.refl c', wf', by unfold RelD; rfl⟩
theorem rngOk_ {j : Int} (h : rngOk j = true) : -(2 ^ 62) ≤ j ∧ j < 2 ^ 62 := by
  unfold rngOk at h
  simpa using h
theorem it_rng1 {tg a : Expr} {m : E} {p pos : Pos} (hm : X.mg "range" = none) (ha : PE X a (tE X.K EW C G m)) (hg : Gl X "range" := by rfl) (hs : starEach [a] X.env = [(false, eval a X.env)] := by rfl) :
    PI X tg (.Call (.Name "range" p) [a] [] pos) (tI X.K EW C G (.rng1 m)) := PI.imp (pi_range1 hg hm (pa_cons ha pa_nil hs) hs) fun σ H R' w => by
  obtain ⟨He, c, h, env, rfl, wf, re, p⟩ := w
  unfold evalI at p
  refine ⟨He, c, h, env, rfl, wf, re, p.bind fun x h1 c1 u le1 wf1 r1 p1 => ?_⟩
  split at p1
  · rename_i j
    split at p1
    · rename_i hj
      have hj := rngOk_ hj
      exact ⟨j, by rw [show u = V.int j from r1.1], hj.1, hj.2, p1 c1 _ le1 wf1 itr_ok⟩
    · exact False.elim p1
  · exact False.elim p1
theorem it_rng2 {tg a b : Expr} {m n : E} {p pos : Pos} (hm : X.mg "range" = none) (ha : PE X a (tE X.K EW C G m)) (hb : PE X b (tE X.K EW C G n)) (hg : Gl X "range" := by rfl)
    (hs : starEach [a, b] X.env = [(false, eval a X.env), (false, eval b X.env)] := by rfl) (hs2 : starEach [b] X.env = [(false, eval b X.env)] := by rfl) :
    PI X tg (.Call (.Name "range" p) [a, b] [] pos) (tI X.K EW C G (.rng2 m n)) := PI.imp (pi_range2 hg hm (pa_cons ha (pa_cons hb pa_nil hs2) (by rw [hs, hs2])) hs hs2) fun σ H R' w => by
  obtain ⟨He, c, h, env, rfl, wf, re, p⟩ := w
  unfold evalI at p
  refine ⟨He, c, h, env, rfl, wf, re, p.bind fun x h1 c1 u le1 wf1 r1 p1 => ?_⟩
  replace p1 := Post.lift le1 (fun _ _ _ h => h) p1
  refine ⟨He, c1, h1, env, rfl, wf1, re.mono le1, Post.bind (Rl1 := RE X.K c1) p1 fun y h2 c2 v le2 wf2 r2 p2 => ?_⟩
  split at p2
  · rename_i i j
    split at p2
    · rename_i hj
      simp only [Bool.and_eq_true] at hj
      have h1 := rngOk_ hj.1
      have h2 := rngOk_ hj.2
      exact ⟨i, j, by rw [show u = V.int i from r1.1, show v = V.int j from r2.1], ⟨h1.1, h1.2, h2.1, h2.2⟩, p2 c2 _ le2 wf2 itr_ok⟩
    · exact False.elim p2
  · exact False.elim p2
theorem rng3_get {lo k : Int} {n i : Nat} {d : D} (h : (rng3L lo k n)[i]? = some d) : i < n ∧ d = .int (lo + (i : Nat) * k) := by
  unfold rng3L at h
  have hi : i < n := by
    have := (List.getElem?_eq_some_iff.mp h).1
    simpa using this
  refine ⟨hi, ?_⟩
  rw [List.getElem?_map, List.getElem?_range hi] at h
  cases h
  rfl
theorem itc_ok {c : Cfg} {lo k : Int} {n : Nat} : ItOk X.K c (rng3L lo k n) (Itc lo k n) := fun c' h' st wf' i => by
  refine ⟨fun d hd => ?_, fun hi => by
    have : n ≤ i := by simpa [rng3L] using hi
    exact this⟩
  obtain ⟨hi, rfl⟩ := rng3_get hd
  refine ⟨hi, fun x H' y => ?_⟩
  obtain ⟨rfl, rfl⟩ := y
  exact ⟨c', rfl, Le.refl c', wf', by unfold RelD; rfl⟩
theorem it_rng3 {tg a b d : Expr} {m n o : E} {p pos : Pos} (hm : X.mg "range" = none) (ha : PE X a (tE X.K EW C G m)) (hb : PE X b (tE X.K EW C G n)) (hd : PE X d (tE X.K EW C G o)) (hg : Gl X "range" := by rfl)
    (hs : starEach [a, b, d] X.env = (false, eval a X.env) :: starEach [b, d] X.env := by rfl) (hs2 : starEach [b, d] X.env = (false, eval b X.env) :: starEach [d] X.env := by rfl) (hs3 : starEach [d] X.env = [(false, eval d X.env)] := by rfl)
    (hpl : (backTo pos (starEach [b, d] X.env)).any (·.1) = false := by rfl) :
    PI X tg (.Call (.Name "range" p) [a, b, d] [] pos) (tI X.K EW C G (.rng3 m n o)) := PI.imp (pi_range3 hg hm (pa_cons ha (pa_cons hb (pa_cons hd pa_nil hs3) hs2) hs) hs hpl) fun σ H R' w => by
  obtain ⟨He, c, h, env, rfl, wf, re, p⟩ := w
  unfold evalI at p
  refine ⟨He, c, h, env, rfl, wf, re, p.bind fun x h1 c1 u le1 wf1 r1 p1 => ?_⟩
  replace p1 := Post.lift le1 (fun _ _ _ h => h) p1
  refine ⟨He, c1, h1, env, rfl, wf1, re.mono le1, Post.bind (Rl1 := RE X.K c1) p1 fun y h2 c2 v le2 wf2 r2 p2 => ?_⟩
  replace p2 := Post.lift le2 (fun _ _ _ h => h) p2
  refine ⟨He, c2, h2, env, rfl, wf2, (re.mono le1).mono le2, Post.bind (Rl1 := RE X.K c2) p2 fun z h3 c3 w le3 wf3 r3 p3 => ?_⟩
  unfold rng3R at p3
  split at p3
  · rename_i i j k
    split at p3
    · rename_i hj
      exact ⟨i, j, k, _, by rw [show u = V.int i from r1.1, show v = V.int j from r2.1, show w = V.int k from r3.1], ⟨hj.1, hj.2.1, hj.2.2.1, (Int.toNat_of_nonneg hj.2.2.2).symm⟩, p3 c3 _ le3 wf3 itc_ok⟩
    · exact False.elim p3
  · exact False.elim p3
theorem enum_get : ∀ {l : List D} {k i : Nat} {d : D}, (enumL k l)[i]? = some d → ∃ e, l[i]? = some e ∧ d = .tup [.int ((k + i : Nat) : Int), e]
  | [], k, i, d, h => by simp [enumL] at h
  | e :: l, k, 0, d, h => by
    simp [enumL] at h
    subst h
    exact ⟨e, rfl, rfl⟩
  | e :: l, k, i + 1, d, h => by
    have h' : (enumL (k + 1) l)[i]? = some d := by simpa [enumL] using h
    obtain ⟨e', g1, g2⟩ := enum_get h'
    exact ⟨e', by simpa using g1, by rw [g2]; congr 3; omega⟩
theorem enum_length : ∀ (l : List D) (k : Nat), (enumL k l).length = l.length
  | [], _ => rfl
  | _ :: l, k => by simp [enumL, enum_length l]
theorem ite_ok {c : Cfg} {a : Addr} {vs : List V} {l : List D} (h1 : ∀ c', Sta c c' → SqL X.K c'.H a vs) (h2 : RelDs X.K c l vs) : ItOk X.K c (enumL 0 l) (Ite X.K a) := fun c' h' st wf' i => by
  have sq := h1 c' st
  have r := RelDs.mono st _ _ h2
  refine ⟨fun d hd => ?_, fun hi => ⟨vs, sq, by rw [← RelDs.length h2, ← enum_length l 0]; exact hi⟩⟩
  obtain ⟨e, g1, rfl⟩ := enum_get hd
  obtain ⟨v, e2, r2⟩ := RelDs.get r g1
  refine ⟨⟨vs, v, sq, e2⟩, fun x H' y => ?_⟩
  obtain ⟨T, x', rfl, hT, rfl, y⟩ := y
  have e3 := y vs sq
  rw [e2] at e3
  cases e3
  have le := put_le wf' hT (.tup [.int (i : Nat), v])
  refine ⟨c'.put T (.tup [.int (i : Nat), v]), rfl, le, put_wf wf' hT _, ?_⟩
  unfold RelD
  refine ⟨T, _, rfl, .inl (.inl upd_same), RelDs.cons ?_ (RelDs.one (RelD.mono le.toSta _ _ r2))⟩
  rw [Nat.zero_add]
  unfold RelD
  rfl
theorem it_enum {es : List Expr} {kk : Nat} {tpos : Pos} {a : Expr} {m : E} {p pos : Pos} (hm : X.mg "enumerate" = none) (ha : PE X a (tE X.K EW C G m)) (hg : Gl X "enumerate" := by rfl) (hs : starEach [a] X.env = [(false, eval a X.env)] := by rfl) :
    PI X (.Tuple es kk tpos) (.Call (.Name "enumerate" p) [a] [] pos) (tI X.K EW C G (.enum m)) := PI.imp (pi_enum hg hm (pa_cons ha pa_nil hs) hs) fun σ H R' w => by
  obtain ⟨He, c, h, env, rfl, wf, re, p⟩ := w
  unfold evalI at p
  refine ⟨He, c, h, env, rfl, wf, re, p.bind fun x h1 c1 u le1 wf1 r1 p1 => ?_⟩
  cases e : itL x with
  | none => rw [e] at p1; exact False.elim p1
  | some l' =>
    rw [e] at p1
    obtain ⟨c2, eH, le2, wf2, a, rfl, ⟨xs, sq⟩, vs, g1, g2⟩ := itL_rel le1 wf1 r1 e
    refine ⟨a, xs, rfl, sq, ?_⟩
    show R' _ c1.H
    rw [← eH]
    refine p1 c2 _ le2 wf2 (ite_ok (vs := vs) (fun c' st => ?_) g1)
    rcases g2 with ⟨g2, g3⟩ | g2
    · exact .inl (.inl (st.fls a _ g2 g3))
    · exact (argL_sta st g2).seq
end
end Mi
/-! Mi6: targets, comprehensions, statements. -/
namespace Mi
open PySem PySem.Spec PyProof.Rows L2

/-! ### targets -/
def gNames : List Nat → TGs
  | [] => gNil
  | i :: is => gCons (gName i) (gNames is)
def gOf (K : PySem.W.Frag) : Tg → TG
  | .nm i => gName i
  | .tp is => gTup K is.length (gNames is)
def Tg.slots : Tg → List Nat
  | .nm i => [i]
  | .tp is => is
section
variable {K : PySem.W.Frag} {c : Cfg} {He : Hp}
theorem setVs_red : ∀ {is : List Nat} {ds : List D} {vs : List V} {env env' : Env'} {σ : L2.St} {Q : L2.St → Hp → Prop}, setVs env is ds = some env' → RelDs K c ds vs → RelEnv K He c env σ →
    (∀ σ', RelEnv K He c env' σ' → (∀ ws : List Nat, (∀ i ∈ is, i ∈ ws) → wipe σ' ws = wipe σ ws) → Q σ' c.H) → (∀ (i : Nat) (x : Option V) (ws : List Nat) (σ : L2.St), i ∈ ws → wipe (σ.set i x) ws = wipe σ ws) → gNames is vs σ c.H Q
  | [], [], vs, env, env', σ, Q, e, h, re, k, _ => by
    unfold setVs at e
    cases e
    unfold RelDs at h
    exact ⟨h, k σ re fun _ _ => rfl⟩
  | i :: is, d :: ds, vs, env, env', σ, Q, e, h, re, k, wi => by
    unfold setVs at e
    unfold RelDs at h
    obtain ⟨v, r, rfl, h1, h2⟩ := h
    refine ⟨v, r, rfl, ?_⟩
    show gNames is r (σ.set i (some v)) c.H Q
    refine setVs_red e h2 (re.put i h1) (fun σ' re' hw => k σ' re' fun ws hs => ?_) wi
    rw [hw ws fun j hj => hs j (List.mem_cons_of_mem _ hj)]
    exact wi i _ ws σ (hs i List.mem_cons_self)
  | [], _ :: _, _, _, _, _, _, e, _, _, _, _ => by unfold setVs at e; cases e
  | _ :: _, [], _, _, _, _, _, e, _, _, _, _ => by unfold setVs at e; cases e
theorem wipe_get {σ : L2.St} {i : Nat} : ∀ {vs : List Nat}, i ∈ vs → i < σ.length → (wipe σ vs)[i]? = some none
  | [], h, _ => by simp at h
  | v :: vs, h, hl => by
    unfold wipe
    by_cases e : i = v
    · subst e
      rw [List.getElem?_set_self (by rw [wipe_length]; exact hl)]
    · rw [List.getElem?_set_ne (Ne.symm e)]
      exact wipe_get ((List.mem_cons.mp h).resolve_left e) hl
theorem wipe_set (i : Nat) (x : Option V) (ws : List Nat) (σ : L2.St) (h : i ∈ ws) : wipe (σ.set i x) ws = wipe σ ws := by
  apply List.ext_getElem?
  intro j
  by_cases hj : j ∈ ws
  · by_cases hl : j < σ.length
    · rw [wipe_get hj hl, wipe_get hj (by simpa using hl)]
    · rw [List.getElem?_eq_none (by rw [wipe_length]; simpa using hl), List.getElem?_eq_none (by rw [wipe_length]; omega)]
  · rw [wipe_at hj, wipe_at hj, List.getElem?_set_ne (fun e => hj (by rw [← e]; exact h))]
theorem wipe_wipe (ws : List Nat) (σ : L2.St) : wipe (wipe σ ws) ws = wipe σ ws := by
  apply List.ext_getElem?
  intro j
  by_cases hj : j ∈ ws
  · by_cases hl : j < σ.length
    · rw [wipe_get hj hl, wipe_get hj (by rw [wipe_length]; exact hl)]
    · rw [List.getElem?_eq_none (by rw [wipe_length, wipe_length]; omega), List.getElem?_eq_none (by rw [wipe_length]; omega)]
  · rw [wipe_at hj]
/-- a target gets what is walked -/
theorem bind_red {t : Tg} {d : D} {x : V} {env env' : Env'} {σ : L2.St} {Q : L2.St → Hp → Prop} (e : t.bind env d = some env') (h : RelD K c d x) (re : RelEnv K He c env σ)
    (k : ∀ σ', RelEnv K He c env' σ' → (∀ ws : List Nat, (∀ i ∈ t.slots, i ∈ ws) → wipe σ' ws = wipe σ ws) → Q σ' c.H) : gOf K t x σ c.H Q := by
  cases t with
  | nm i =>
    cases e
    exact k _ (re.put i h) fun ws hs => wipe_set i _ ws σ (hs i (by simp [Tg.slots]))
  | tp is =>
    cases d with
    | tup ds =>
      have e : setVs env is ds = some env' := e
      unfold RelD at h
      obtain ⟨a, vs, rfl, h1, h2⟩ := h
      have el : ∀ (is : List Nat) (ds : List D) (env env' : Env'), setVs env is ds = some env' → ds.length = is.length := by
        intro is
        induction is with
        | nil =>
          intro ds env env' e
          cases ds with
          | nil => rfl
          | cons d ds => unfold setVs at e; cases e
        | cons i is ih =>
          intro ds env env' e
          cases ds with
          | nil => unfold setVs at e; cases e
          | cons d ds => unfold setVs at e; simp [ih _ _ _ e]
      exact ⟨a, vs, rfl, h1, by rw [← RelDs.length h2]; exact el _ _ _ _ e, setVs_red e h2 re k wipe_set⟩
    | _ => cases e
end
section
variable {X : Cx} {EW : EWish} {C : Calls'} {G : Str → Option D}
theorem tg_name (i : Nat) {x : Str} {pos : Pos} (hN : X.N.Nodup) (hi : X.N[i]? = some x := by rfl) (hx : Loc X.env.scope x := by first | exact Or.inl rfl | exact Or.inr rfl) (hf : X.fn x = true ∨ X.env.scope.names.lookup x = some .local := by first | exact .inl rfl | exact .inr rfl) :
    PG X (.Name x pos) (gOf X.K (.nm i)) := pg_name hN hi hx hf
theorem tgs_nil : PGs X [] (gNames []) := pgs_nil
theorem tgs_cons (i : Nat) {x : Str} {pos : Pos} {es : List Expr} {is : List Nat} (hN : X.N.Nodup) (h2 : PGs X es (gNames is)) (hi : X.N[i]? = some x := by rfl) (hx : Loc X.env.scope x := by first | exact Or.inl rfl | exact Or.inr rfl) (hf : X.fn x = true ∨ X.env.scope.names.lookup x = some .local := by first | exact .inl rfl | exact .inr rfl)
    (hs : (assignEach (.Name x pos :: es) X.env).map (·.2) = assign (.Name x pos) X.env :: (assignEach es X.env).map (·.2) := by rfl) : PGs X (.Name x pos :: es) (gNames (i :: is)) := pgs_cons (pg_name hN hi hx hf) h2 hs
theorem tg_tup {es : List Expr} {is : List Nat} {k : Nat} {pos : Pos} (hc : X.calm = true) (h : PGs X es (gNames is)) (hn : (assignEach es X.env).length = is.length := by rfl) (hst : (assignEach es X.env).findIdx? (·.1) = none := by rfl) : PG X (.Tuple es k pos) (gOf X.K (.tp is)) := pg_tup hc h hn hst
/-! ### comprehensions -/
abbrev EW0 : EWish := fun _ _ _ => False
def compG (C : Calls') (G : Str → Option D) (mc me : E) (env' : Env') (h2 : Hh) : Res (Option D) := (evalE C G mc env' h2).bind fun b h3 => match b with
      | .dat (.bl true) => (evalE C G me env' h3).bind fun x h4 => match x.fz with
        | some y => .ok (some y) h4
        | none => .bad
      | .dat (.bl false) => .ok none h3
      | _ => .bad
def compF (C : Calls') (G : Str → Option D) (own : List Nat) (t : Tg) (mc me : E) (env : Env') : D → Hh → Res (Option D) := fun d h2 => match t.bind (wipeE env own) d with
    | none => .bad
    | some env' => compG C G mc me env' h2
theorem lc_red {own : List Nat} {t : Tg} {it : Iter} {mc me : E} (hsub : ∀ i ∈ t.slots, i ∈ own) : ∀ σ H Q, tE X.K EW C G (.comp own t it mc me) σ H Q → tLc (tI X.K EW C G it) (gOf X.K t) (tT X.K EW0 C G mc) (tE X.K EW0 C G me) own σ H Q := fun σ H Q w => by
  obtain ⟨He, c0, h0, env, rfl, wf0, re0, p⟩ := w
  unfold evalE at p
  have p : Post X.K EW c0 (RE X.K c0) Q ((evalI C G it env h0).bind fun ds h1 => compLoop (compF C G own t mc me env) ds [] h1) := p
  refine ⟨He, c0, h0, env, rfl, wf0, re0, p.bind fun ds h1 c1 J le1 wf1 ok p1 => ?_⟩
  intro Dd hD
  have hD0 : c0.H Dd = none := Classical.byContradiction fun q => le1.stay _ q hD
  let Iv : Nat → Hp → Prop := fun i H => ∃ (c : Cfg) (h : Hh) (acc : List D), c.H = H ∧ WF X.K c h ∧ Le c0 c ∧ Sta c1 c ∧ OwnL X.K c acc (.ref Dd) ∧ PostE X.K EW c0 Q (compLoop (compF C G own t mc me env) (ds.drop i) acc h)
  refine ⟨fun i m H => m = ds.length - i ∧ i ≤ ds.length ∧ Iv i H, ⟨ds.length, by simp, Nat.zero_le _, c1.put Dd (.lst []), h1, [], rfl, put_wf wf1 hD _, le1.trans (put_le wf1 hD _), (put_le wf1 hD _).toSta, ⟨Dd, [], rfl, upd_same, fun z => ?_, fun k hk z => ?_, RelDs.nil⟩, p1⟩, ?_⟩
  · obtain ⟨us, q⟩ := wf1.fl Dd z
    rw [hD] at q; cases q
  · exact wf1.some hk (by rw [show c1.r k = Dd from z]; exact hD)
  rintro i m H ⟨rfl, hi, c, h, acc, rfl, wf, le, sta, own1, pl⟩
  by_cases hlt : i < ds.length
  · have hd : ds[i]? = some ds[i] := List.getElem?_eq_getElem hlt
    obtain ⟨go, yl⟩ := (ok c h sta wf i).1 ds[i] hd
    refine .inr ⟨go, Iv (i + 1), fun H' q => ⟨ds.length - (i + 1), by omega, rfl, hlt, q⟩, fun x H' y => ?_⟩
    obtain ⟨c2, rfl, le2, wf2, rd⟩ := yl x H' y
    rw [List.drop_eq_getElem_cons hlt] at pl
    unfold compLoop at pl
    have ef : compF C G own t mc me env ds[i] h = match t.bind (wipeE env own) ds[i] with
      | none => .bad
      | some env' => compG C G mc me env' h := rfl
    rw [ef] at pl
    clear ef
    cases hb : t.bind (wipeE env own) ds[i] with
    | none => rw [hb] at pl; exact False.elim pl
    | some env' =>
      rw [hb] at pl
      replace pl : PostE X.K EW c0 Q (match compG C G mc me env' h with
        | .ok none h' => compLoop (compF C G own t mc me env) (ds.drop (i + 1)) acc h'
        | .ok (some x) h' => if acc.length < sizeLine then compLoop (compF C G own t mc me env) (ds.drop (i + 1)) (acc ++ [x]) h' else .bad
        | _ => .bad) := pl
      have reW : RelEnv X.K He c2 (wipeE env own) (wipe σ own) := ((re0.mono le).mono le2).wipe own
      refine bind_red hb rd reW fun σ' re' hw => ⟨(hw own hsub).trans (wipe_wipe own σ), ?_⟩
      refine ⟨He, c2, h, env', rfl, wf2, re', ?_⟩
      unfold compG at pl
      cases q1 : evalE C G mc env' h with
      | bad => rw [q1] at pl; exact False.elim pl
      | ex z hz => rw [q1] at pl; exact False.elim pl
      | ok b h3 =>
        rw [q1] at pl
        simp only [Res.bind] at pl
        intro c3 u le3 wf3 r3
        have own3 := OwnL.mono le3 (OwnL.mono le2 own1)
        have le03 := (le.trans le2).trans le3
        cases b with
        | new l => exact False.elim pl
        | bor l => exact False.elim pl
        | dat d0 =>
          cases d0 with
          | bl bb =>
            have q : RelD X.K c3 (.bl bb) u := r3.1
            unfold RelD at q
            refine ⟨bb, q, ?_⟩
            cases bb with
            | false =>
              rw [if_neg Bool.false_ne_true]
              exact ⟨c3, h3, acc, rfl, wf3, le03, (sta.trans le2.toSta).trans le3.toSta, own3, pl⟩
            | true =>
              rw [if_pos rfl]
              refine ⟨He, c3, h3, env', rfl, wf3, re'.mono le3, ?_⟩
              simp only at pl
              cases q2 : evalE C G me env' h3 with
              | bad => rw [q2] at pl; exact False.elim pl
              | ex z hz => rw [q2] at pl; exact False.elim pl
              | ok x5 h5 =>
                rw [q2] at pl
                simp only at pl
                intro c4 v le4 wf4 r4
                cases e5 : x5.fz with
                | none => rw [e5] at pl; exact False.elim pl
                | some y5 =>
                  rw [e5] at pl
                  simp only at pl
                  obtain ⟨c5, eH, le5, st5, wf5, r5⟩ := freeze_ans le4 wf4 r4 e5
                  obtain ⟨a5, vs5, ea, g1, g2, g3, g4⟩ := OwnL.mono le5 own3
                  cases ea
                  split at pl
                  · rename_i hz
                    refine ⟨vs5, by rw [← eH]; exact g1, by rw [← RelDs.length g4]; exact hz, ?_⟩
                    have st6 := own_sta (ws := vs5 ++ [v]) g1 g2
                    refine ⟨c5.put Dd (.lst (vs5 ++ [v])), h5, acc ++ [y5], by show upd c5.H Dd _ = _; rw [eH], own_wf wf5 g1 g2 g3, own_le (le03.trans le5) hD0 g1 g2, (((sta.trans le2.toSta).trans le3.toSta).trans le5.toSta).trans st6,
                      ⟨Dd, vs5 ++ [v], rfl, upd_same, g2, g3, (RelDs.mono st6 _ _ g4).append (RelDs.one (RelD.mono st6 _ _ r5))⟩, pl⟩
                  · exact False.elim pl
          | _ => exact False.elim pl
  · have e : i = ds.length := by omega
    subst e
    refine .inl ⟨(ok c h sta wf _).2 (Nat.le_refl _), ?_⟩
    rw [List.drop_length] at pl
    unfold compLoop at pl
    exact pl c (.ref Dd) le wf ⟨own1, hD0⟩
theorem sim_comp {t : Tg} {it : Iter} {mc me : E} {elt tg iter : Expr} {ifs : List Expr} {scope : Scope} {pos : Pos} (own : List (Str × Nat)) (hc : X.calm = true) (hN : X.N.Nodup) (hi : PI X tg iter (tI X.K EW C G it)) (ok : blkC X.N X.env.scope scope own = true)
    (hsub : (t.slots.all fun i => (own.map (·.2)).contains i) = true)
    (hg : ∀ (s : Shared) (H : Hp) (C : Addr) (cl : List (Str × Addr)) (fp : List Addr), PG (X.blk s H scope (compEnvC scope cl C X.env) fp) tg (gOf X.K t))
    (ht : ∀ (s : Shared) (H : Hp) (C' : Addr) (cl : List (Str × Addr)) (fp : List Addr), PTs (X.blk s H scope (compEnvC scope cl C' X.env) fp) ifs (tT X.K EW0 C G mc))
    (he : ∀ (s : Shared) (H : Hp) (C' : Addr) (cl : List (Str × Addr)) (fp : List Addr), PE (X.blk s H scope (compEnvC scope cl C' X.env) fp) elt (tE X.K EW0 C G me)) (hs : ∀ x, foldedSetIterable iter X.env x = pure x := by intro _; rfl) :
    PE X (.ListComp elt [⟨tg, iter, ifs, 0⟩] scope pos) (tE X.K EW C G (.comp (own.map (·.2)) t it mc me)) := PE.imp (pe_lc hc hN hi (blkOk_by ok) hg ht he hs) (lc_red fun i hm => by
      have := List.all_eq_true.mp hsub i hm
      simpa using this)
theorem tsts_no : PTs X [] (tT X.K EW0 C G (.con (.bl true))) := by
  refine ⟨fun pins s σ H Q I w => ?_⟩
  refine (pts_nil (X := X)).run pins s σ H Q I ?_
  obtain ⟨He, c, h, env, rfl, wf, re, p⟩ := w
  unfold evalE at p
  obtain ⟨k, e, q⟩ := PostE.here wf p relBl
  cases e
  exact q
theorem tsts_one {e : Expr} {m : E} (h : PT X e (tT X.K EW0 C G m)) : PTs X [e] (tT X.K EW0 C G m) := pts_one h
end
end Mi
/-! Mi7: statements. -/
namespace Mi
open PySem PySem.Spec PyProof.Rows L2

/-- what follows a statement -/
def PostF (K : PySem.W.Frag) (ce c : Cfg) (D : Ends) : Fl → Prop
  | .nx env => ∀ σ, RelEnv K ce.H c env σ → D.nx σ c.H
  | .bk env => ∀ σ, RelEnv K ce.H c env σ → D.bk σ c.H
  | .ct env => ∀ σ, RelEnv K ce.H c env σ → D.ct σ c.H
  | .rt r => ∀ v, RelR K c r v → Fr ce.H r v → D.rt v c.H
def PostS (K : PySem.W.Frag) (EW : EWish) (ce c : Cfg) (D : Ends) : Res Fl → Prop
  | .bad => False
  | .ok fl h => ∀ c', Le ce c' → Sta c c' → WF K c' h → PostF K ce c' D fl
  | .ex x h => ∀ c', Le ce c' → WF K c' h → EW x c' h
section
variable (K : PySem.W.Frag) (EW : EWish) (C : Calls') (G : Str → Option D) (ce : Cfg)
def tS (s : S) : TS := fun D σ H => ∃ (c : Cfg) (h : Hh) (env : Env'), c.H = H ∧ WF K c h ∧ Le ce c ∧ RelEnv K ce.H c env σ ∧ PostS K EW ce c D (execS C G s env h)
def tSs (s : Ss) : TS := fun D σ H => ∃ (c : Cfg) (h : Hh) (env : Env'), c.H = H ∧ WF K c h ∧ Le ce c ∧ RelEnv K ce.H c env σ ∧ PostS K EW ce c D (execSs C G s env h)
end
section
variable {K : PySem.W.Frag} {EW : EWish} {ce c c1 : Cfg} {D : Ends}
theorem PostS.sta {res : Res Fl} (st : Sta c c1) (p : PostS K EW ce c D res) : PostS K EW ce c1 D res := by
  cases res with
  | bad => exact p
  | ex x h => exact p
  | ok fl h => exact fun c' l s w => p c' l (st.trans s) w
/-- an expression of a statement -/
theorem PostS.bindE {α β : Type} {res : Res α} {f : α → Hh → Res Fl} {Rl : Cfg → α → β → Prop} {Q : β → Hp → Prop} (le : Le ce c) (p : PostS K EW ce c D (res.bind f))
    (k : ∀ x h1 c1 v, Le c c1 → WF K c1 h1 → Rl c1 x v → PostS K EW ce c1 D (f x h1) → Q v c1.H) : Post K EW c Rl Q res := by
  cases res with
  | bad => exact p
  | ex x h => exact fun c' l w => p c' (le.trans l) w
  | ok x h => exact fun c' v l w r => k x h c' v l w r (PostS.sta l.toSta p)
end
section
variable {X : Cx} {EW : EWish} {C : Calls'} {G : Str → Option D} {ce : Cfg} {pos : Pos}
/-! ### blocks -/
theorem blk_nil : PSs X [] (tSs X.K EW C G ce .nil) := pss_nil.imp fun D σ H w => by
  obtain ⟨c, h, env, rfl, wf, le, re, p⟩ := w
  unfold execSs at p
  exact p c le (Sta.refl c) wf σ re
theorem blk_cons {st : Stmt} {rest : List Stmt} {m : S} {ms : Ss} (h1 : PS X st (tS X.K EW C G ce m)) (h2 : PSs X rest (tSs X.K EW C G ce ms)) : PSs X (st :: rest) (tSs X.K EW C G ce (.cons m ms)) := (pss_cons h1 h2).imp fun D σ H w => by
  obtain ⟨c, h, env, rfl, wf, le, re, p⟩ := w
  unfold execSs at p
  refine ⟨c, h, env, rfl, wf, le, re, ?_⟩
  cases q : execS C G m env h with
  | bad => rw [q] at p; exact p
  | ex x h' => rw [q] at p; exact p
  | ok fl h' =>
    rw [q] at p
    intro c' le' st' wf'
    cases fl with
    | nx env' => exact fun σ' re' => ⟨c', h', env', rfl, wf', le', re', PostS.sta st' p⟩
    | bk env' => exact p c' le' st' wf'
    | ct env' => exact p c' le' st' wf'
    | rt r => exact p c' le' st' wf'
/-- freezing an owned list is no statement of the program's -/
theorem blk_frz {rest : List Stmt} {i : Nat} {ms : Ss} (h2 : PSs X rest (tSs X.K EW C G ce ms)) : PSs X rest (tSs X.K EW C G ce (.cons (.frz i) ms)) := h2.imp fun D σ H w => by
  obtain ⟨c, h, env, rfl, wf, le, re, p⟩ := w
  unfold execSs execS at p
  cases e : env[i]? with
  | none => rw [e] at p; exact False.elim p
  | some s =>
    rw [e] at p
    cases s with
    | un => exact False.elim p
    | val d => exact False.elim p
    | own l =>
      obtain ⟨a, ea, ⟨a', vs, q, g1, g2, g3, g4⟩, hz⟩ := re.own e
      cases q
      have st := freeze_sta (c := c) (a := a)
      have hi : i < env.length := (List.getElem?_eq_some_iff.mp e).1
      have re2 : RelEnv X.K ce.H (c.freeze a) (setV env i (.lst l)) σ := by
        refine ⟨by unfold setV; simp [re.len], fun j s ej => ?_, fun j k l' m' b e1 e2 f1 f2 => ?_⟩
        · unfold setV at ej
          by_cases hj : j = i
          · subst hj
            rw [List.getElem?_set_self hi] at ej
            cases ej
            refine ⟨_, ea, .ref a, rfl, ?_⟩
            unfold RelD
            exact ⟨a, vs, rfl, .inr rfl, g1, RelDs.mono st _ _ g4⟩
          · rw [List.getElem?_set_ne (Ne.symm hj)] at ej
            obtain ⟨x, e1, e2⟩ := re.sl j s ej
            refine ⟨x, e1, ?_⟩
            cases s with
            | un => exact True.intro
            | val d => obtain ⟨v, q1, q2⟩ := e2; exact ⟨v, q1, RelD.mono st d v q2⟩
            | own l' =>
              obtain ⟨b, q1, ⟨b', us, q2, q3, q4, q5, q6⟩, q7⟩ := e2
              cases q2
              have nb : b ≠ a := fun z => by
                subst z
                exact hj (re.ap j i l' l b ej e (by rw [e1, q1]) ea)
              refine ⟨b, q1, ⟨b, us, rfl, q3, fun z => ?_, q5, RelDs.mono st _ _ q6⟩, q7⟩
              rcases z with z | z
              · exact q4 z
              · exact nb z
        · unfold setV at e1 e2
          have nj : j ≠ i := fun z => by
            subst z
            rw [List.getElem?_set_self hi] at e1; cases e1
          have nk : k ≠ i := fun z => by
            subst z
            rw [List.getElem?_set_self hi] at e2; cases e2
          rw [List.getElem?_set_ne (Ne.symm nj)] at e1
          rw [List.getElem?_set_ne (Ne.symm nk)] at e2
          exact re.ap j k l' m' b e1 e2 f1 f2
      exact ⟨c.freeze a, h, setV env i (.lst l), rfl, freeze_wf wf g1 g3, freeze_le le hz, re2, PostS.sta st p⟩
/-! ### stores -/
theorem asg_red {i : Nat} {m : E} : ∀ D σ H, tS X.K EW C G ce (.asg i m) D σ H → tAsg (tE X.K EW C G m) (gName i) D σ H := fun D σ H w => by
  obtain ⟨c, h, env, rfl, wf, le, re, p⟩ := w
  unfold execS at p
  refine ⟨ce.H, c, h, env, rfl, wf, re, PostS.bindE (Rl := RE X.K c) le p fun x h1 c1 v le1 wf1 r1 p1 => ?_⟩
  cases e : x.fz with
  | none => rw [e] at p1; exact False.elim p1
  | some d =>
    rw [e] at p1
    obtain ⟨c2, eH, le2, st2, wf2, r2⟩ := freeze_ans le1 wf1 r1 e
    show D.nx _ c1.H
    rw [← eH]
    exact p1 c2 (le.trans le2) st2 wf2 _ ((re.mono le2).put i r2)
theorem own_red {i : Nat} {m : E} : ∀ D σ H, tS X.K EW C G ce (.own i m) D σ H → tAsg (tE X.K EW C G m) (gName i) D σ H := fun D σ H w => by
  obtain ⟨c, h, env, rfl, wf, le, re, p⟩ := w
  unfold execS at p
  refine ⟨ce.H, c, h, env, rfl, wf, re, PostS.bindE (Rl := RE X.K c) le p fun x h1 c1 v le1 wf1 r1 p1 => ?_⟩
  cases x with
  | dat d => exact False.elim p1
  | bor l => exact False.elim p1
  | new l =>
    obtain ⟨ow, hf⟩ := r1
    have ow' := ow
    obtain ⟨a, vs, rfl, g1, g2, g3, g4⟩ := ow'
    have hf : c.H a = none := hf
    refine p1 c1 (le.trans le1) (Sta.refl c1) wf1 _ ((re.mono le1).putOwn i ow (Classical.byContradiction fun q => le.stay a q hf) fun j m' hj ej ea => ?_)
    obtain ⟨b, eb, ⟨b', us, q1, q2, _⟩, _⟩ := re.own ej
    cases q1
    rw [ea] at eb
    cases eb
    rw [hf] at q2; cases q2
theorem any_red {i : Nat} {m : E} : ∀ D σ H, tS X.K EW C G ce (.any i m) D σ H → tAsg (tE X.K EW C G m) (gName i) D σ H := fun D σ H w => by
  obtain ⟨c, h, env, rfl, wf, le, re, p⟩ := w
  unfold execS at p
  refine ⟨ce.H, c, h, env, rfl, wf, re, PostS.bindE (Rl := RE X.K c) le p fun x h1 c1 v le1 wf1 r1 p1 => ?_⟩
  cases x with
  | dat d => exact p1 c1 (le.trans le1) (Sta.refl c1) wf1 _ ((re.mono le1).put i r1.1)
  | bor l => exact False.elim p1
  | new l =>
    obtain ⟨ow, hf⟩ := r1
    have ow' := ow
    obtain ⟨a, vs, rfl, g1, g2, g3, g4⟩ := ow'
    have hf : c.H a = none := hf
    refine p1 c1 (le.trans le1) (Sta.refl c1) wf1 _ ((re.mono le1).putOwn i ow (Classical.byContradiction fun q => le.stay a q hf) fun j m' hj ej ea => ?_)
    obtain ⟨b, eb, ⟨b', us, q1, q2, _⟩, _⟩ := re.own ej
    cases q1
    rw [ea] at eb
    cases eb
    rw [hf] at q2; cases q2
section
variable {i : Nat} {x : Str} {e : Expr} {m : E} {px : Pos}
theorem st_asg (i : Nat) (hN : X.N.Nodup) (he : PE X e (tE X.K EW C G m)) (hi : X.N[i]? = some x := by rfl) (hx : Loc X.env.scope x := by first | exact Or.inl rfl | exact Or.inr rfl) (hs : swapsWith e (some (.Name x px)) pos.line X.env = pure false := by rfl)
    (hf : X.fn x = true ∨ X.env.scope.names.lookup x = some .local := by first | exact .inl rfl | exact .inr rfl) : PS X (.Assign [.Name x px] e pos) (tS X.K EW C G ce (.asg i m)) := (ps_set hN hi hx he hs hf).imp asg_red
theorem st_own (i : Nat) (hN : X.N.Nodup) (he : PE X e (tE X.K EW C G m)) (hi : X.N[i]? = some x := by rfl) (hx : Loc X.env.scope x := by first | exact Or.inl rfl | exact Or.inr rfl) (hs : swapsWith e (some (.Name x px)) pos.line X.env = pure false := by rfl)
    (hf : X.fn x = true ∨ X.env.scope.names.lookup x = some .local := by first | exact .inl rfl | exact .inr rfl) : PS X (.Assign [.Name x px] e pos) (tS X.K EW C G ce (.own i m)) := (ps_set hN hi hx he hs hf).imp own_red
end
theorem st_any {x : Str} {e : Expr} {m : E} {px : Pos} (i : Nat) (hN : X.N.Nodup) (he : PE X e (tE X.K EW C G m)) (hi : X.N[i]? = some x := by rfl) (hx : Loc X.env.scope x := by first | exact Or.inl rfl | exact Or.inr rfl) (hs : swapsWith e (some (.Name x px)) pos.line X.env = pure false := by rfl)
    (hf : X.fn x = true ∨ X.env.scope.names.lookup x = some .local := by first | exact .inl rfl | exact .inr rfl) : PS X (.Assign [.Name x px] e pos) (tS X.K EW C G ce (.any i m)) := (ps_set hN hi hx he hs hf).imp any_red
/-- name = [.. for ..] on one line -/
theorem st_asgC {y : Str} {py : Pos} {t : Tg} {it : Iter} {mc me : E} {elt tg iter : Expr} {ifs : List Expr} {scope : Scope} {cpos : Pos} (i : Nat) (own : List (Str × Nat)) (hc : X.calm = true) (hN : X.N.Nodup) (hi : PI X tg iter (tI X.K EW C G it)) (ok : blkC X.N X.env.scope scope own = true)
    (hsub : (t.slots.all fun i => (own.map (·.2)).contains i) = true)
    (hg : ∀ (s : Shared) (H : Hp) (C : Addr) (cl : List (Str × Addr)) (fp : List Addr), PG (X.blk s H scope (compEnvC scope cl C X.env) fp) tg (gOf X.K t))
    (ht : ∀ (s : Shared) (H : Hp) (C' : Addr) (cl : List (Str × Addr)) (fp : List Addr), PTs (X.blk s H scope (compEnvC scope cl C' X.env) fp) ifs (tT X.K EW0 C G mc))
    (he : ∀ (s : Shared) (H : Hp) (C' : Addr) (cl : List (Str × Addr)) (fp : List Addr), PE (X.blk s H scope (compEnvC scope cl C' X.env) fp) elt (tE X.K EW0 C G me))
    (hsw : swapsWith (.ListComp elt [⟨tg, iter, ifs, 0⟩] scope cpos) (some (.Name y py)) pos.line X.env = pure true) (hy : X.N[i]? = some y := by rfl) (hyl : X.env.scope.names.lookup y = some .local := by rfl) (hs : ∀ x, foldedSetIterable iter X.env x = pure x := by intro _; rfl) :
    PS X (.Assign [.Name y py] (.ListComp elt [⟨tg, iter, ifs, 0⟩] scope cpos) pos) (tS X.K EW C G ce (.asg i (.comp (own.map (·.2)) t it mc me))) := (ps_setLc hc hN hy hyl hsw hi (blkOk_by ok) hg ht he hs).imp fun D σ H w => lc_red (fun i hm => by
      have := List.all_eq_true.mp hsub i hm
      simpa using this) σ H _ (asg_red D σ H w)
theorem st_ownC {y : Str} {py : Pos} {t : Tg} {it : Iter} {mc me : E} {elt tg iter : Expr} {ifs : List Expr} {scope : Scope} {cpos : Pos} (i : Nat) (own : List (Str × Nat)) (hc : X.calm = true) (hN : X.N.Nodup) (hi : PI X tg iter (tI X.K EW C G it)) (ok : blkC X.N X.env.scope scope own = true)
    (hsub : (t.slots.all fun i => (own.map (·.2)).contains i) = true)
    (hg : ∀ (s : Shared) (H : Hp) (C : Addr) (cl : List (Str × Addr)) (fp : List Addr), PG (X.blk s H scope (compEnvC scope cl C X.env) fp) tg (gOf X.K t))
    (ht : ∀ (s : Shared) (H : Hp) (C' : Addr) (cl : List (Str × Addr)) (fp : List Addr), PTs (X.blk s H scope (compEnvC scope cl C' X.env) fp) ifs (tT X.K EW0 C G mc))
    (he : ∀ (s : Shared) (H : Hp) (C' : Addr) (cl : List (Str × Addr)) (fp : List Addr), PE (X.blk s H scope (compEnvC scope cl C' X.env) fp) elt (tE X.K EW0 C G me))
    (hsw : swapsWith (.ListComp elt [⟨tg, iter, ifs, 0⟩] scope cpos) (some (.Name y py)) pos.line X.env = pure true) (hy : X.N[i]? = some y := by rfl) (hyl : X.env.scope.names.lookup y = some .local := by rfl) (hs : ∀ x, foldedSetIterable iter X.env x = pure x := by intro _; rfl) :
    PS X (.Assign [.Name y py] (.ListComp elt [⟨tg, iter, ifs, 0⟩] scope cpos) pos) (tS X.K EW C G ce (.own i (.comp (own.map (·.2)) t it mc me))) := (ps_setLc hc hN hy hyl hsw hi (blkOk_by ok) hg ht he hs).imp fun D σ H w => lc_red (fun i hm => by
      have := List.all_eq_true.mp hsub i hm
      simpa using this) σ H _ (own_red D σ H w)
/-- a, b = .. by a tuple -/
theorem st_asgs {es : List Expr} {is : List Nat} {k : Nat} {tp : Pos} {e : Expr} {m : E} (hc : X.calm = true) (he : PE X e (tE X.K EW C G m)) (hg : PGs X es (gNames is)) (hn : (assignEach es X.env).length = is.length := by rfl) (hst : (assignEach es X.env).findIdx? (·.1) = none := by rfl)
    (hs : swapsWithSole [.Tuple es k tp] e pos.line X.env = pure false := by rfl) (hw : swappedStores [.Tuple es k tp] e X.env = pure none := by rfl) (h1 : (assignEach [.Tuple es k tp] X.env).map (·.2) = [assign (.Tuple es k tp) X.env] := by rfl) :
    PS X (.Assign [.Tuple es k tp] e pos) (tS X.K EW C G ce (.asgs is m)) := (ps_asg he (tg_tup hc hg hn hst) hs hw h1).imp fun D σ H w => by
  obtain ⟨c, h, env, rfl, wf, le, re, p⟩ := w
  unfold execS at p
  refine ⟨ce.H, c, h, env, rfl, wf, re, PostS.bindE (Rl := RE X.K c) le p fun x h1 c1 v le1 wf1 r1 p1 => ?_⟩
  cases x with
  | new l => exact False.elim p1
  | bor l => exact False.elim p1
  | dat d =>
    cases d with
    | tup ds =>
      simp only at p1
      cases e : setVs env is ds with
      | none => rw [e] at p1; exact False.elim p1
      | some env' =>
        rw [e] at p1
        exact bind_red (t := .tp is) (d := .tup ds) e r1.1 (re.mono le1) fun σ' re' _ => p1 c1 (le.trans le1) (Sta.refl c1) wf1 σ' re'
    | _ => exact False.elim p1
/-- a, b = e1, e2, both locals -/
theorem st_par {a b : Expr} {ms : Es} {x y : Str} {px py pt pt2 : Pos} {kt k2 : Nat} (i j : Nat) (hc : X.calm = true) (hN : X.N.Nodup) (hes : PA X [a, b] (tA X.K EW C G ms)) (hw : swappedStores [.Tuple [.Name x px, .Name y py] kt pt] (.Tuple [a, b] k2 pt2) X.env = pure (some [x, y]))
    (hi : X.N[i]? = some x := by rfl) (hj : X.N[j]? = some y := by rfl) (hij : i ≠ j := by decide) (hx : X.env.scope.names.lookup x = some .local := by rfl) (hy : X.env.scope.names.lookup y = some .local := by rfl)
    (hs : swapsWithSole [.Tuple [.Name x px, .Name y py] kt pt] (.Tuple [a, b] k2 pt2) pos.line X.env = pure false := by rfl) :
    PS X (.Assign [.Tuple [.Name x px, .Name y py] kt pt] (.Tuple [a, b] k2 pt2) pos) (tS X.K EW C G ce (.asgs [i, j] (.tup ms))) := (ps_par hc hN hi hj hij hx hy hes hw hs).imp fun D σ H w => by
  obtain ⟨c, h, env, rfl, wf, le, re, p⟩ := w
  unfold execS evalE at p
  refine ⟨ce.H, c, h, env, rfl, wf, re, ?_⟩
  cases q : evalEs C G ms env h with
  | bad => rw [q] at p; exact False.elim p
  | ex z hz => rw [q] at p; exact fun c' l w => p c' (le.trans l) w
  | ok ds h1 =>
    rw [q] at p
    intro c1 vs le1 wf1 r1
    simp only [Res.bind] at p
    by_cases hz : ds.length ≤ sizeLine
    · rw [if_pos hz] at p
      simp only at p
      cases e : setVs env [i, j] ds with
      | none => rw [e] at p; exact False.elim p
      | some env' =>
        rw [e] at p
        cases ds with
        | nil => unfold setVs at e; cases e
        | cons d1 ds =>
          cases ds with
          | nil => unfold setVs setVs at e; cases e
          | cons d2 ds =>
            cases ds with
            | cons d3 ds => unfold setVs setVs setVs at e; cases e
            | nil =>
              unfold setVs setVs setVs at e
              cases e
              have r1 : RelDs X.K c1 [d1, d2] vs := r1
              unfold RelDs RelDs RelDs at r1
              obtain ⟨v, r, rfl, g1, w', r', rfl, g2, rfl⟩ := r1
              exact ⟨v, w', rfl, p c1 (le.trans le1) le1.toSta wf1 _ (((re.mono le1).put i g1).put j g2)⟩
    · rw [if_neg hz] at p
      exact False.elim p
theorem sto_rel {K : PySem.W.Frag} {He : Hp} {c : Cfg} {env e1 : Env'} {σ : L2.St} {x : R} {v : V} {i : Nat} (re : RelEnv K He c env σ) (r : RelR K c x v) (e : stoR i env x = some e1)
    (hz : ∀ (a : Addr) (l : List D), x = R.new l → v = V.ref a → He a = none ∧ ∀ (j : Nat) (m : List D), env[j]? = some (Slot.own m) → σ[j]? ≠ some (some (V.ref a))) : RelEnv K He c e1 (σ.set i (some v)) := by
  cases x with
  | bor l => cases e
  | dat d => cases e; exact re.put i r
  | new l =>
    cases e
    have r' : OwnL K c l v := r
    obtain ⟨a, vs, rfl, _⟩ := id r'
    obtain ⟨z1, z2⟩ := hz a l rfl rfl
    exact re.putOwn i r' z1 fun j m _ ej => z2 j m ej
/-- a, b = e1, e2, both locals, each stored by what it is -/
theorem st_par2 {a b : Expr} {ma mb : E} {x y : Str} {px py pt pt2 : Pos} {kt k2 : Nat} (i j : Nat) (hc : X.calm = true) (hN : X.N.Nodup) (ha : PE X a (tE X.K EW C G ma)) (hb : PE X b (tE X.K EW C G mb)) (hw : swappedStores [.Tuple [.Name x px, .Name y py] kt pt] (.Tuple [a, b] k2 pt2) X.env = pure (some [x, y]))
    (hi : X.N[i]? = some x := by rfl) (hj : X.N[j]? = some y := by rfl) (hij : i ≠ j := by decide) (hx : X.env.scope.names.lookup x = some .local := by rfl) (hy : X.env.scope.names.lookup y = some .local := by rfl)
    (hs : swapsWithSole [.Tuple [.Name x px, .Name y py] kt pt] (.Tuple [a, b] k2 pt2) pos.line X.env = pure false := by rfl) (hs1 : starEach [a, b] X.env = (false, eval a X.env) :: starEach [b] X.env := by rfl) (hs2 : starEach [b] X.env = (false, eval b X.env) :: starEach [] X.env := by rfl) :
    PS X (.Assign [.Tuple [.Name x px, .Name y py] kt pt] (.Tuple [a, b] k2 pt2) pos) (tS X.K EW C G ce (.par2 i j ma mb)) := (ps_par hc hN hi hj hij hx hy (pa_cons ha (pa_cons hb pa_nil hs2) hs1) hw hs).imp fun D σ H w => by
  obtain ⟨c, h, env, rfl, wf, le, re, p⟩ := w
  unfold execS at p
  refine ⟨ce.H, c, h, env, rfl, wf, re, PostS.bindE (Rl := RE X.K c) le p fun x h1 c1 u le1 wf1 r1 p1 => ?_⟩
  refine ⟨ce.H, c1, h1, env, rfl, wf1, re.mono le1, PostS.bindE (Rl := RE X.K c1) (le.trans le1) p1 fun y h2 c2 v le2 wf2 r2 p2 => ?_⟩
  refine ⟨u, v, rfl, ?_⟩
  cases q1 : stoR i env x with
  | none => rw [q1] at p2; exact False.elim p2
  | some e1 =>
    rw [q1] at p2
    simp only [Option.bind_some] at p2
    cases q2 : stoR j e1 y with
    | none => rw [q2] at p2; exact False.elim p2
    | some e2 =>
      rw [q2] at p2
      have re1 : RelEnv X.K ce.H c1 e1 (σ.set i (some u)) := sto_rel (re.mono le1) r1.1 q1 fun a l hx hu => by
        subst hx hu
        have hf : c.H a = none := r1.2
        refine ⟨Classical.byContradiction fun q => le.stay a q hf, fun k m ek eq => ?_⟩
        obtain ⟨b, eb, ⟨b', us, z1, z2, _⟩, _⟩ := re.own ek
        cases z1
        rw [eq] at eb
        cases eb
        rw [hf] at z2; cases z2
      have re2 : RelEnv X.K ce.H c2 e2 ((σ.set i (some u)).set j (some v)) := sto_rel (re1.mono le2) r2.1 q2 fun a l hy hv => by
        subst hy hv
        have hf : c1.H a = none := r2.2
        refine ⟨Classical.byContradiction fun q => (le.trans le1).stay a q hf, fun k m ek eq => ?_⟩
        obtain ⟨b, eb, ⟨b', us, z1, z2, _⟩, _⟩ := re1.own ek
        cases z1
        rw [eq] at eb
        cases eb
        rw [hf] at z2; cases z2
      exact p2 c2 ((le.trans le1).trans le2) (Sta.refl c2) wf2 _ re2
theorem st_setL {o i e : Expr} {mo mi m : E} {pos' : Pos} (he : PE X e (tE X.K EW C G m)) (ho : PE X o (tE X.K EW C G mo)) (hi : PE X i (tE X.K EW C G mi)) (ha : ∀ v, assign (.Subscript o i pos') X.env v = (do
      let ov ← holding [v] (eval o X.env)
      let iv ← holding [v, ov] (eval i X.env)
      standAt pos'
      holding [v, ov, iv] (setItem ov iv v)
      release [v, ov, iv] []) := by intro _; rfl)
    (hs : swapsWithSole [.Subscript o i pos'] e pos.line X.env = pure false := by rfl) (hw : swappedStores [.Subscript o i pos'] e X.env = pure none := by rfl) (h1 : (assignEach [.Subscript o i pos'] X.env).map (·.2) = [assign (.Subscript o i pos') X.env] := by rfl) :
    PS X (.Assign [.Subscript o i pos'] e pos) (tS X.K EW C G ce (.setL mo mi m)) := (ps_asg he (pg_sub ho hi set_list ha) hs hw h1).imp fun D σ H w => by
  obtain ⟨c, h, env, rfl, wf, le, re, p⟩ := w
  unfold execS at p
  refine ⟨ce.H, c, h, env, rfl, wf, re, PostS.bindE (Rl := RE X.K c) le p fun x h1 c1 v le1 wf1 r1 p1 => ?_⟩
  cases e : x.fz with
  | none => rw [e] at p1; exact False.elim p1
  | some d =>
    rw [e] at p1
    obtain ⟨c2, eH, le2, st2, wf2, r2⟩ := freeze_ans le1 wf1 r1 e
    have lee := le.trans le2
    refine ⟨ce.H, c2, h1, env, eH, wf2, re.mono le2, PostS.bindE (Rl := RE X.K c2) lee (PostS.sta st2 p1) fun y h2 c3 u le3 wf3 r3 p3 => ?_⟩
    refine ⟨ce.H, c3, h2, env, rfl, wf3, (re.mono le2).mono le3, PostS.bindE (Rl := RE X.K c3) (lee.trans le3) p3 fun z h3 c4 t le4 wf4 r4 p4 => ?_⟩
    split at p4
    · rename_i n iz
      split at p4
      · rename_i l hl
        split at p4
        · rename_i j hj
          have q : RelD X.K c3 (.ref n) u := r3.1
          have q := RelD.mono le4.toSta _ _ q
          unfold RelD at q
          obtain ⟨hn, rfl⟩ := q
          obtain ⟨vs, g1, g2⟩ := wf4.obj n _ hl
          have rv := RelD.mono le4.toSta _ _ (RelD.mono le3.toSta _ _ r2)
          have lt := ref_le wf4 hn (.lst (vs.set j v))
          refine ⟨c4.r n, vs, iz, j, rfl, r4.1, g1, by rw [← RelDs.length g2]; exact hj, ?_⟩
          refine p4 (c4.put (c4.r n) (.lst (vs.set j v))) (((lee.trans le3).trans le4).trans lt) lt.toSta (ref_wf wf4 hn ⟨_, rfl, RelDs.set j g2 rv⟩) σ ((((re.mono le2).mono le3).mono le4).mono lt)
        · exact False.elim p4
      · exact False.elim p4
    · exact False.elim p4
theorem st_setD {o i e : Expr} {mo mi m : E} {pos' : Pos} (hu : X.A.units + 200 < cLine) (he : PE X e (tE X.K EW C G m)) (ho : PE X o (tE X.K EW C G mo)) (hi : PE X i (tE X.K EW C G mi)) (hs : swapsWith e (some (.Subscript o i pos')) pos.line X.env = pure false := by rfl) :
    PS X (.Assign [.Subscript o i pos'] e pos) (tS X.K EW C G ce (.setD mo mi m)) := (ps_dput (by omega) ho hi he hs).imp fun D σ H w => by
  obtain ⟨c, h, env, rfl, wf, le, re, p⟩ := w
  unfold execS at p
  refine ⟨ce.H, c, h, env, rfl, wf, re, PostS.bindE (Rl := RE X.K c) le p fun x h1 c1 v le1 wf1 r1 p1 => ?_⟩
  cases e : x.fz with
  | none => rw [e] at p1; exact False.elim p1
  | some d =>
    rw [e] at p1
    obtain ⟨c2, eH, le2, st2, wf2, r2⟩ := freeze_ans le1 wf1 r1 e
    have lee := le.trans le2
    refine ⟨ce.H, c2, h1, env, eH, wf2, re.mono le2, PostS.bindE (Rl := RE X.K c2) lee (PostS.sta st2 p1) fun y h2 c3 u le3 wf3 r3 p3 => ?_⟩
    refine ⟨ce.H, c3, h2, env, rfl, wf3, (re.mono le2).mono le3, PostS.bindE (Rl := RE X.K c3) (lee.trans le3) p3 fun z h3 c4 t le4 wf4 r4 p4 => ?_⟩
    split at p4
    · rename_i n kd
      split at p4
      · rename_i l kk hl hk
        split at p4
        · rename_i hz
          have q : RelD X.K c3 (.ref n) u := r3.1
          have q := RelD.mono le4.toSta _ _ q
          unfold RelD at q
          obtain ⟨hn, rfl⟩ := q
          obtain ⟨vs, g1, g2⟩ := wf4.obj n _ hl
          have rv := RelD.mono le4.toSta _ _ (RelD.mono le3.toSta _ _ r2)
          have lt := ref_le wf4 hn (.dK (putK vs kk v))
          refine ⟨c4.r n, upd c4.H (c4.r n) (.dK (putK vs kk v)), rfl, ?_, ?_⟩
          · rw [key_rel r4.1 hk]
            exact DPut.k g1 (by rw [← kv_length g2]; exact hz)
          · exact p4 (c4.put (c4.r n) (.dK (putK vs kk v))) (((lee.trans le3).trans le4).trans lt) lt.toSta (ref_wf wf4 hn ⟨_, rfl, kv_put g2 rv⟩) σ ((((re.mono le2).mono le3).mono le4).mono lt)
        · exact False.elim p4
      · exact False.elim p4
    · exact False.elim p4
theorem st_setOwn {x : Str} {px : Pos} {i e : Expr} {mi m : E} {pos' : Pos} (k : Nat) (he : PE X e (tE X.K EW C G m)) (hi : PE X i (tE X.K EW C G mi)) (ho : PE X (.Name x px) (tVar k)) (ha : ∀ v, assign (.Subscript (.Name x px) i pos') X.env v = (do
      let ov ← holding [v] (eval (.Name x px) X.env)
      let iv ← holding [v, ov] (eval i X.env)
      standAt pos'
      holding [v, ov, iv] (setItem ov iv v)
      release [v, ov, iv] []) := by intro _; rfl)
    (hs : swapsWithSole [.Subscript (.Name x px) i pos'] e pos.line X.env = pure false := by rfl) (hw : swappedStores [.Subscript (.Name x px) i pos'] e X.env = pure none := by rfl) (h1 : (assignEach [.Subscript (.Name x px) i pos'] X.env).map (·.2) = [assign (.Subscript (.Name x px) i pos') X.env] := by rfl) :
    PS X (.Assign [.Subscript (.Name x px) i pos'] e pos) (tS X.K EW C G ce (.setOwn k mi m)) := (ps_asg he (pg_sub ho hi set_list ha) hs hw h1).imp fun D σ H w => by
  obtain ⟨c, h, env, rfl, wf, le, re, p⟩ := w
  unfold execS at p
  refine ⟨ce.H, c, h, env, rfl, wf, re, PostS.bindE (Rl := RE X.K c) le p fun x h1 c1 v le1 wf1 r1 p1 => ?_⟩
  cases e : x.fz with
  | none => rw [e] at p1; exact False.elim p1
  | some d =>
    rw [e] at p1
    obtain ⟨c2, eH, le2, st2, wf2, r2⟩ := freeze_ans le1 wf1 r1 e
    have lee := le.trans le2
    have re2 := re.mono le2
    show tVar k σ c1.H _
    replace p1 := PostS.sta st2 p1
    simp only at p1
    cases ek : env[k]? with
    | none => rw [ek] at p1; exact False.elim p1
    | some s =>
      rw [ek] at p1
      cases s with
      | un => exact False.elim p1
      | val d' => exact False.elim p1
      | own l =>
        obtain ⟨a, ea, ow, hz⟩ := re2.own ek
        refine ⟨.ref a, ea, ?_⟩
        refine ⟨ce.H, c2, h1, env, eH, wf2, re2, PostS.bindE (Rl := RE X.K c2) lee p1 fun y h2 c3 u le3 wf3 r3 p3 => ?_⟩
        split at p3
        · rename_i z
          split at p3
          · rename_i j hj
            obtain ⟨a', vs, q, g1, g2, g3, g4⟩ := OwnL.mono le3 ow
            cases q
            have rv := RelD.mono le3.toSta _ _ r2
            have st4 := own_sta (ws := vs.set j v) g1 g2
            refine ⟨a, vs, z, j, rfl, r3.1, g1, by rw [← RelDs.length g4]; exact hj, ?_⟩
            exact p3 (c3.put a (.lst (vs.set j v))) (own_le (lee.trans le3) hz g1 g2) st4 (own_wf wf3 g1 g2 g3) σ ((re2.mono le3).write ek ea g1 g2 g3 hz (RelDs.mono st4 _ _ (RelDs.set j g4 rv)))
          · exact False.elim p3
        · exact False.elim p3
theorem st_app {x : Str} {px ap cp : Pos} {e : Expr} {m : E} (k : Nat) (he : PE X e (tE X.K EW C G m)) (ho : PE X (.Name x px) (tVar k)) (hbase : attributeBase (.Name x px) "append" X.env (eval (.Name x px) X.env) = eval (.Name x px) X.env := by rfl)
    (hfew : ((backTo cp (starEach [e] X.env)).all (fun x => !x.1) && (backToKw cp (keywordEach [] X.env)).all (fun x => x.1.isSome)
      && decide (([e] : List Expr).length + ([] : List Keyword).length + (if ([] : List Keyword).isEmpty then 0 else 1) < 30)) = true := by rfl)
    (hline : (ap.endLine == cp.line) = true := by rfl) (hs : starEach [e] X.env = (false, eval e X.env) :: starEach [] X.env := by rfl) (hplain : (backTo cp (starEach [] X.env)).any (·.1) = false := by rfl)
    (hsw : swapsWith (.Call (.Attribute (.Name x px) "append" ap) [e] [] cp) none pos.line X.env = pure false := by rfl) :
    PS X (.Expr (.Call (.Attribute (.Name x px) "append" ap) [e] [] cp) pos) (tS X.K EW C G ce (.app k m)) :=
  (ps_expr (pe_bm PySem.F.plainAttrs_list PySem.F.slot_list_append PySem.F.type_list_append mt_append ho (pa_cons he pa_nil hs) hbase hfew hline hs hplain) hsw).imp fun D σ H w => by
  obtain ⟨c, h, env, rfl, wf, le, re, p⟩ := w
  unfold execS at p
  cases ek : env[k]? with
  | none => rw [ek] at p; exact False.elim p
  | some s =>
    rw [ek] at p
    cases s with
    | un => exact False.elim p
    | val d' => exact False.elim p
    | own l =>
      obtain ⟨a, ea, ow, hz⟩ := re.own ek
      have ow' := ow
      obtain ⟨a0, vs0, q0, g0, _⟩ := ow'
      cases q0
      refine ⟨.ref a, ea, .inl ⟨rfl, vs0, .inl (.inl g0)⟩, ?_⟩
      refine ⟨ce.H, c, h, env, rfl, wf, re, PostS.bindE (Rl := RE X.K c) le p fun y h1 c1 v le1 wf1 r1 p1 => ?_⟩
      cases e1 : y.fz with
      | none => rw [e1] at p1; exact False.elim p1
      | some d =>
        rw [e1] at p1
        simp only at p1
        obtain ⟨c2, eH, le2, st2, wf2, r2⟩ := freeze_ans le1 wf1 r1 e1
        split at p1
        · rename_i hl
          obtain ⟨a', vs, q, g1, g2, g3, g4⟩ := OwnL.mono le2 ow
          cases q
          have st4 := own_sta (ws := vs ++ [v]) g1 g2
          refine ⟨a, vs, v, rfl, rfl, by rw [← eH]; exact g1, by rw [← RelDs.length g4]; exact hl, ?_⟩
          show D.nx σ (upd c1.H a (.lst (vs ++ [v])))
          rw [← eH]
          exact p1 (c2.put a (.lst (vs ++ [v]))) (own_le (le.trans le2) hz g1 g2) (st2.trans st4) (own_wf wf2 g1 g2 g3) σ ((re.mono le2).write ek ea g1 g2 g3 hz ((RelDs.mono st4 _ _ g4).append (RelDs.one (RelD.mono st4 _ _ r2))))
        · exact False.elim p1
theorem st_ext {x : Str} {px ap cp : Pos} {e : Expr} {m : E} (k : Nat) (he : PE X e (tE X.K EW C G m)) (ho : PE X (.Name x px) (tVar k)) (hbase : attributeBase (.Name x px) "extend" X.env (eval (.Name x px) X.env) = eval (.Name x px) X.env := by rfl)
    (hfew : ((backTo cp (starEach [e] X.env)).all (fun x => !x.1) && (backToKw cp (keywordEach [] X.env)).all (fun x => x.1.isSome)
      && decide (([e] : List Expr).length + ([] : List Keyword).length + (if ([] : List Keyword).isEmpty then 0 else 1) < 30)) = true := by rfl)
    (hline : (ap.endLine == cp.line) = true := by rfl) (hs : starEach [e] X.env = (false, eval e X.env) :: starEach [] X.env := by rfl) (hplain : (backTo cp (starEach [] X.env)).any (·.1) = false := by rfl)
    (hsw : swapsWith (.Call (.Attribute (.Name x px) "extend" ap) [e] [] cp) none pos.line X.env = pure false := by rfl) :
    PS X (.Expr (.Call (.Attribute (.Name x px) "extend" ap) [e] [] cp) pos) (tS X.K EW C G ce (.ext k m)) :=
  (ps_expr (pe_bm PySem.F.plainAttrs_list PySem.F.slot_list_extend PySem.F.type_list_extend mt_extend ho (pa_cons he pa_nil hs) hbase hfew hline hs hplain) hsw).imp fun D σ H w => by
  obtain ⟨c, h, env, rfl, wf, le, re, p⟩ := w
  unfold execS at p
  cases ek : env[k]? with
  | none => rw [ek] at p; exact False.elim p
  | some s =>
    rw [ek] at p
    cases s with
    | un => exact False.elim p
    | val d' => exact False.elim p
    | own l =>
      obtain ⟨a, ea, ow, hz⟩ := re.own ek
      have ow' := ow
      obtain ⟨a0, vs0, q0, g0, _⟩ := ow'
      cases q0
      refine ⟨.ref a, ea, .inl ⟨rfl, vs0, .inl (.inl g0)⟩, ?_⟩
      refine ⟨ce.H, c, h, env, rfl, wf, re, PostS.bindE (Rl := RE X.K c) le p fun y h1 c1 v le1 wf1 r1 p1 => ?_⟩
      cases e1 : lv h1 y with
      | none => rw [e1] at p1; exact False.elim p1
      | some l' =>
        rw [e1] at p1
        simp only at p1
        obtain ⟨b, ws, rfl, f1, f2⟩ := lv_rel wf1 r1.1 e1
        split at p1
        · rename_i hl
          obtain ⟨a', vs, q, g1, g2, g3, g4⟩ := OwnL.mono le1 ow
          cases q
          have st4 := own_sta (ws := vs ++ ws) g1 g2
          refine ⟨a, b, vs, ws, rfl, rfl, g1, f1, by rw [← RelDs.length g4, ← RelDs.length f2]; exact hl, ?_⟩
          exact p1 (c1.put a (.lst (vs ++ ws))) (own_le (le.trans le1) hz g1 g2) st4 (own_wf wf1 g1 g2 g3) σ ((re.mono le1).write ek ea g1 g2 g3 hz ((RelDs.mono st4 _ _ g4).append (RelDs.mono st4 _ _ f2)))
        · exact False.elim p1
theorem st_expr {e : Expr} {m : E} (he : PE X e (tE X.K EW C G m)) (hs : swapsWith e none pos.line X.env = pure false := by rfl) : PS X (.Expr e pos) (tS X.K EW C G ce (.expr m)) := (ps_expr he hs).imp fun D σ H w => by
  obtain ⟨c, h, env, rfl, wf, le, re, p⟩ := w
  unfold execS at p
  exact ⟨ce.H, c, h, env, rfl, wf, re, PostS.bindE (Rl := RE X.K c) le p fun y h1 c1 v le1 wf1 r1 p1 => p1 c1 (le.trans le1) (Sta.refl c1) wf1 σ (re.mono le1)⟩
/-! ### if, loops -/
theorem st_if {t : Expr} {a b : List Stmt} {m : E} {ma mb : Ss} (ht : PT X t (tT X.K EW C G m)) (ha : PSs X a (tSs X.K EW C G ce ma)) (hb : PSs X b (tSs X.K EW C G ce mb)) : PS X (.If t a b pos) (tS X.K EW C G ce (.ifs m ma mb)) := (ps_if ht ha hb).imp fun D σ H w => by
  obtain ⟨c, h, env, rfl, wf, le, re, p⟩ := w
  unfold execS at p
  refine ⟨ce.H, c, h, env, rfl, wf, re, PostS.bindE (Rl := RE X.K c) le p fun y h1 c1 v le1 wf1 r1 p1 => ?_⟩
  split at p1
  · have q : RelD X.K c1 (.bl true) v := r1.1
    unfold RelD at q
    refine ⟨true, q, ?_⟩
    show if true = true then _ else _
    rw [if_pos rfl]
    exact ⟨c1, h1, env, rfl, wf1, le.trans le1, re.mono le1, p1⟩
  · have q : RelD X.K c1 (.bl false) v := r1.1
    unfold RelD at q
    refine ⟨false, q, ?_⟩
    show if false = true then _ else _
    rw [if_neg Bool.false_ne_true]
    exact ⟨c1, h1, env, rfl, wf1, le.trans le1, re.mono le1, p1⟩
  · exact False.elim p1
theorem st_for {tg iter : Expr} {body : List Stmt} {t : Tg} {it : Iter} {mb : Ss} (hp : PassesOwn (model X.prog X.w) X.A X.env X.xe) (hc : X.calm = true) (hi : PI X tg iter (tI X.K EW C G it)) (hg : PG X tg (gOf X.K t)) (hb : PSs X body (tSs X.K EW C G ce mb))
    (hs : ∀ x, foldedSetIterable iter X.env x = pure x := by intro _; rfl) : PS X (.For tg iter body [] pos) (tS X.K EW C G ce (.for' t it mb)) := (ps_for hp hc hi hg hb hs).imp fun D σ H w => by
  obtain ⟨c0, h0, env0, rfl, wf0, le0, re0, p⟩ := w
  unfold execS at p
  refine ⟨ce.H, c0, h0, env0, rfl, wf0, re0, ?_⟩
  cases q : evalI C G it env0 h0 with
  | bad => rw [q] at p; exact p
  | ex x h' => rw [q] at p; exact fun c' l w => p c' (le0.trans l) w
  | ok ds h1 =>
    rw [q] at p
    intro c1 J le1 wf1 ok
    simp only [Res.bind] at p
    refine ⟨fun i m σ' H' => m = ds.length - i ∧ i ≤ ds.length ∧ ∃ (c : Cfg) (h : Hh) (env : Env'), c.H = H' ∧ WF X.K c h ∧ Le ce c ∧ Sta c1 c ∧ RelEnv X.K ce.H c env σ' ∧ PostS X.K EW ce c D (forLoop t (fun env' h' => execSs C G mb env' h') (ds.drop i) env h),
      ⟨ds.length, by simp, Nat.zero_le _, c1, h1, env0, rfl, wf1, le0.trans le1, Sta.refl c1, re0.mono le1, PostS.sta le1.toSta p⟩, ?_⟩
    rintro i m σ' H' ⟨rfl, hi, c, h, env, rfl, wf, le, sta, re, pl⟩
    by_cases hlt : i < ds.length
    · have hd : ds[i]? = some ds[i] := List.getElem?_eq_getElem hlt
      obtain ⟨go, yl⟩ := (ok c h sta wf i).1 ds[i] hd
      refine .inr ⟨go, fun σ'' H'' => i + 1 ≤ ds.length ∧ ∃ (c : Cfg) (h : Hh) (env : Env'), c.H = H'' ∧ WF X.K c h ∧ Le ce c ∧ Sta c1 c ∧ RelEnv X.K ce.H c env σ'' ∧ PostS X.K EW ce c D (forLoop t (fun env' h' => execSs C G mb env' h') (ds.drop (i + 1)) env h),
        fun σ'' H'' ⟨q1, q2⟩ => ⟨ds.length - (i + 1), by omega, rfl, q1, q2⟩, fun x H'' y => ?_⟩
      obtain ⟨c2, rfl, le2, wf2, rd⟩ := yl x H'' y
      rw [List.drop_eq_getElem_cons hlt] at pl
      unfold forLoop at pl
      cases hb : t.bind env ds[i] with
      | none => rw [hb] at pl; exact False.elim pl
      | some env1 =>
        rw [hb] at pl
        simp only at pl
        refine bind_red hb rd (re.mono le2) fun σ2 re2 _ => ?_
        refine ⟨c2, h, env1, rfl, wf2, le.trans le2, re2, ?_⟩
        have st2 := sta.trans le2.toSta
        cases q3 : execSs C G mb env1 h with
        | bad => rw [q3] at pl; exact pl
        | ex x h' => rw [q3] at pl; exact pl
        | ok fl h2 =>
          rw [q3] at pl
          intro c3 le3 st3 wf3
          cases fl with
          | nx env2 => exact fun σ3 re3 => ⟨hlt, c3, h2, env2, rfl, wf3, le3, st2.trans st3, re3, PostS.sta (le2.toSta.trans st3) pl⟩
          | ct env2 => exact fun σ3 re3 => ⟨hlt, c3, h2, env2, rfl, wf3, le3, st2.trans st3, re3, PostS.sta (le2.toSta.trans st3) pl⟩
          | bk env2 => exact fun σ3 re3 => pl c3 le3 (le2.toSta.trans st3) wf3 σ3 re3
          | rt r => exact fun v rr fr => pl c3 le3 (le2.toSta.trans st3) wf3 v rr fr
    · have e : i = ds.length := by omega
      subst e
      refine .inl ⟨(ok c h sta wf _).2 (Nat.le_refl _), ?_⟩
      rw [List.drop_length] at pl
      unfold forLoop at pl
      exact pl c le (Sta.refl c) wf σ' re
theorem st_whl {t : Expr} {body : List Stmt} {m : E} {mb : Ss} (hp : PassesOwn (model X.prog X.w) X.A X.env X.xe) (ht : PT X t (tT X.K EW C G m)) (hb : PSs X body (tSs X.K EW C G ce mb)) : PS X (.While t body [] pos) (tS X.K EW C G ce (.whl m mb)) := (ps_while hp ht hb).imp fun D σ H w => by
  obtain ⟨c0, h0, env0, rfl, wf0, le0, re0, p⟩ := w
  unfold execS at p
  refine ⟨fun n σ' H' => ∃ (c : Cfg) (h : Hh) (env : Env'), c.H = H' ∧ WF X.K c h ∧ Le ce c ∧ RelEnv X.K ce.H c env σ' ∧ PostS X.K EW ce c D (whlLoop (fun env' h' => evalE C G m env' h') (fun env' h' => execSs C G mb env' h') n env h),
    ⟨whlMost, c0, h0, env0, rfl, wf0, le0, re0, p⟩, ?_⟩
  rintro n σ' H' ⟨c, h, env, rfl, wf, le, re, pl⟩
  cases n with
  | zero => unfold whlLoop at pl; exact False.elim pl
  | succ n =>
    unfold whlLoop at pl
    refine ⟨ce.H, c, h, env, rfl, wf, re, ?_⟩
    cases q : evalE C G m env h with
    | bad => rw [q] at pl; exact pl
    | ex x h' => rw [q] at pl; exact fun c' l w => pl c' (le.trans l) w
    | ok b h1 =>
      rw [q] at pl
      intro c1 v le1 wf1 r1
      cases b with
      | new l => exact False.elim pl
      | bor l => exact False.elim pl
      | dat d =>
        cases d with
        | bl bb =>
          have q2 : RelD X.K c1 (.bl bb) v := r1.1
          unfold RelD at q2
          refine ⟨bb, q2, ?_⟩
          cases bb with
          | false =>
            rw [if_neg Bool.false_ne_true]
            exact pl c1 (le.trans le1) le1.toSta wf1 σ' (re.mono le1)
          | true =>
            rw [if_pos rfl]
            refine ⟨fun σ'' H'' => ∃ (c : Cfg) (h : Hh) (env : Env'), c.H = H'' ∧ WF X.K c h ∧ Le ce c ∧ RelEnv X.K ce.H c env σ'' ∧ PostS X.K EW ce c D (whlLoop (fun env' h' => evalE C G m env' h') (fun env' h' => execSs C G mb env' h') n env h),
              fun σ'' H'' q => ⟨n, Nat.lt_succ_self n, q⟩, c1, h1, env, rfl, wf1, le.trans le1, re.mono le1, ?_⟩
            simp only at pl
            cases q3 : execSs C G mb env h1 with
            | bad => rw [q3] at pl; exact pl
            | ex x h' => rw [q3] at pl; exact pl
            | ok fl h2 =>
              rw [q3] at pl
              intro c3 le3 st3 wf3
              cases fl with
              | nx env2 => exact fun σ3 re3 => ⟨c3, h2, env2, rfl, wf3, le3, re3, PostS.sta (le1.toSta.trans st3) pl⟩
              | ct env2 => exact fun σ3 re3 => ⟨c3, h2, env2, rfl, wf3, le3, re3, PostS.sta (le1.toSta.trans st3) pl⟩
              | bk env2 => exact fun σ3 re3 => pl c3 le3 (le1.toSta.trans st3) wf3 σ3 re3
              | rt r => exact fun v rr fr => pl c3 le3 (le1.toSta.trans st3) wf3 v rr fr
        | _ => exact False.elim pl
/-! ### ends -/
theorem st_ret {e : Expr} {m : E} (he : PE X e (tE X.K EW C G m)) : PS X (.Return (some e) pos) (tS X.K EW C G ce (.ret m)) := (ps_ret he).imp fun D σ H w => by
  obtain ⟨c, h, env, rfl, wf, le, re, p⟩ := w
  unfold execS at p
  refine ⟨ce.H, c, h, env, rfl, wf, re, PostS.bindE (Rl := RE X.K c) le p fun y h1 c1 v le1 wf1 r1 p1 => ?_⟩
  cases y with
  | bor l => exact False.elim p1
  | new l => exact p1 c1 (le.trans le1) (Sta.refl c1) wf1 v r1.1 (Fr.mono le r1.2)
  | dat d => exact p1 c1 (le.trans le1) (Sta.refl c1) wf1 v r1.1 True.intro
theorem st_retV {x : Str} {px : Pos} (k : Nat) (ho : PE X (.Name x px) (tVar k)) : PS X (.Return (some (.Name x px)) pos) (tS X.K EW C G ce (.retV k)) := (ps_ret ho).imp fun D σ H w => by
  obtain ⟨c, h, env, rfl, wf, le, re, p⟩ := w
  unfold execS at p
  cases ek : env[k]? with
  | none => rw [ek] at p; exact False.elim p
  | some s =>
    rw [ek] at p
    cases s with
    | un => exact False.elim p
    | val d' => exact False.elim p
    | own l =>
      obtain ⟨a, ea, ow, hz⟩ := re.own ek
      exact ⟨.ref a, ea, p c le (Sta.refl c) wf (.ref a) ow hz⟩
/-! what is returned, where a list that a name owns may be handed on in a branch -/
def tRetS (K : PySem.W.Frag) (EW : EWish) (C : Calls') (G : Str → Option D) (ce : Cfg) (s : S) : TE := fun σ H Q => ∃ D : Ends, D.rt = Q ∧ tS K EW C G ce s D σ H
theorem rt_e {e : Expr} {m : E} (he : PE X e (tE X.K EW C G m)) : PE X e (tRetS X.K EW C G ce (.ret m)) := he.imp fun σ H Q w => by
  obtain ⟨D, rfl, c, h, env, rfl, wf, le, re, p⟩ := w
  unfold execS at p
  refine ⟨ce.H, c, h, env, rfl, wf, re, PostS.bindE (Rl := RE X.K c) le p fun y h1 c1 v le1 wf1 r1 p1 => ?_⟩
  cases y with
  | bor l => exact False.elim p1
  | new l => exact p1 c1 (le.trans le1) (Sta.refl c1) wf1 v r1.1 (Fr.mono le r1.2)
  | dat d => exact p1 c1 (le.trans le1) (Sta.refl c1) wf1 v r1.1 True.intro
theorem rt_v {x : Str} {px : Pos} (k : Nat) (ho : PE X (.Name x px) (tVar k)) : PE X (.Name x px) (tRetS X.K EW C G ce (.retV k)) := ho.imp fun σ H Q w => by
  obtain ⟨D, rfl, c, h, env, rfl, wf, le, re, p⟩ := w
  unfold execS at p
  cases ek : env[k]? with
  | none => rw [ek] at p; exact False.elim p
  | some s =>
    rw [ek] at p
    cases s with
    | un => exact False.elim p
    | val d' => exact False.elim p
    | own l =>
      obtain ⟨a, ea, ow, hz⟩ := re.own ek
      exact ⟨.ref a, ea, p c le (Sta.refl c) wf (.ref a) ow hz⟩
theorem one_post {K : PySem.W.Frag} {EW : EWish} {ce c : Cfg} {D : Ends} {s : S} {env : Env'} {h : Hh} (p : PostS K EW ce c D (execSs C G (.cons s .nil) env h)) : PostS K EW ce c D (execS C G s env h) := by
  unfold execSs at p
  cases q : execS C G s env h with
  | bad => rw [q] at p; exact p
  | ex x h' => rw [q] at p; exact p
  | ok fl h' =>
    rw [q] at p
    cases fl with
    | nx e => simp only [execSs] at p; exact p
    | _ => exact p
theorem rt_ite {d a b : Expr} {md : E} {sa sb : S} {ip : Pos} (hd : PT X d (tT X.K EW C G md)) (ha : PE X a (tRetS X.K EW C G ce sa)) (hb : PE X b (tRetS X.K EW C G ce sb)) : PE X (.IfExp d a b ip) (tRetS X.K EW C G ce (.ifs md (.cons sa .nil) (.cons sb .nil))) := (pe_ifExp hd ha hb).imp fun σ H Q w => by
  obtain ⟨D, rfl, c, h, env, rfl, wf, le, re, p⟩ := w
  unfold execS at p
  refine ⟨ce.H, c, h, env, rfl, wf, re, PostS.bindE (Rl := RE X.K c) le p fun y h1 c1 v le1 wf1 r1 p1 => ?_⟩
  split at p1
  · have q : RelD X.K c1 (.bl true) v := r1.1
    unfold RelD at q
    refine ⟨true, q, ?_⟩
    show if true = true then _ else _
    rw [if_pos rfl]
    exact ⟨D, rfl, c1, h1, env, rfl, wf1, le.trans le1, re.mono le1, one_post p1⟩
  · have q : RelD X.K c1 (.bl false) v := r1.1
    unfold RelD at q
    refine ⟨false, q, ?_⟩
    show if false = true then _ else _
    rw [if_neg Bool.false_ne_true]
    exact ⟨D, rfl, c1, h1, env, rfl, wf1, le.trans le1, re.mono le1, one_post p1⟩
  · exact False.elim p1
theorem st_retX {e : Expr} {s : S} (he : PE X e (tRetS X.K EW C G ce s)) : PS X (.Return (some e) pos) (tS X.K EW C G ce s) := (ps_ret he).imp fun D σ H w => ⟨D, rfl, w⟩
theorem st_retn : PS X (.Return none pos) (tS X.K EW C G ce .retn) := ps_retN.imp fun D σ H w => by
  obtain ⟨c, h, env, rfl, wf, le, re, p⟩ := w
  unfold execS at p
  exact p c le (Sta.refl c) wf .non (show RelD X.K c .non .non by unfold RelD; rfl) True.intro
theorem st_pass : PS X (.Pass pos) (tS X.K EW C G ce .pass) := ps_pass.imp fun D σ H w => by
  obtain ⟨c, h, env, rfl, wf, le, re, p⟩ := w
  unfold execS at p
  exact p c le (Sta.refl c) wf σ re
theorem st_brk : PS X (.Break pos) (tS X.K EW C G ce .brk) := ps_break.imp fun D σ H w => by
  obtain ⟨c, h, env, rfl, wf, le, re, p⟩ := w
  unfold execS at p
  exact p c le (Sta.refl c) wf σ re
theorem st_cnt : PS X (.Continue pos) (tS X.K EW C G ce .cnt) := ps_continue.imp fun D σ H w => by
  obtain ⟨c, h, env, rfl, wf, le, re, p⟩ := w
  unfold execS at p
  exact p c le (Sta.refl c) wf σ re
theorem st_never {st : Stmt} : PS X st (tS X.K EW C G ce .never) := ps_never.imp fun D σ H w => by
  obtain ⟨c, h, env, rfl, wf, le, re, p⟩ := w
  unfold execS at p
  exact False.elim p
end
end Mi
/-! Mi8: defs, all at once; the law's own call. -/
namespace Mi
open PySem PySem.Spec PyProof.Rows L2

/-- a def keeps a promise wherever nothing is being shown (so that a list's text can be reckoned) -/
structure FnG (P : Program) (w : World) (K : PySem.W.Frag) (mg : Str → Option Value) (base : Heap) (CX : CXT) (k : Nat) (f : Addr) (fd : FuncData) (ps : List Str) (sp : Sp) : Prop where
  len : ∀ vs H Q E, sp vs H Q E → vs.length = ps.length
  run : ∀ (A : Around) (outer : List Env) (s : Shared) (H : Hp) (args : Args) (us : List Value) (vs : List V) (Q : VK) (E : XK), Room k A → A.guards = some [] → Env0 P w K mg base A outer s H →
    BindsTo s fd args (ps.zip us) → Vals vs us → sp vs H Q E → codeAny (model P w) A (.call (.ref f) args) (CR CX outer P w H s Q E) s
section
variable {P : Program} {w : World} {K : PySem.W.Frag} {mg : Str → Option Value} {base : Heap}
theorem FnG.mono {CX : CXT} {j k : Nat} {f : Addr} {fd : FuncData} {ps : List Str} {sp : Sp} (F : FnG P w K mg base CX j f fd ps sp) (h : j ≤ k) : FnG P w K mg base CX k f fd ps sp :=
  ⟨F.len, fun A outer s H args us vs Q E r => F.run A outer s H args us vs Q E (r.mono h)⟩
/-- by its body -/
theorem fnG_of {CX : CXT} {k : Nat} {x qual : Str} {st : Stmt} {f : Addr} {fd : FuncData} {N ps : List Str} {sp : Sp} (F : Fun K x qual st f fd) (S : FnScope N ps (defScope st)) (len : ∀ vs H Q E, sp vs H Q E → vs.length = ps.length)
    (body : ∀ (cdv : Value) (A : Around) (outer : List Env) (s : Shared) (H : Hp) (vs : List V) (Q : VK) (E : XK), Room k (A.deeper (envOfC qual (defScope st) s.heap.objs.size f cdv)) → A.guards = some [] → sp vs H Q E →
      ∃ t, PSs (cxOf CX P w K mg base N qual (defScope st) f cdv A outer s H E) (defBody st) t ∧ t { nx := fun _ H' => Q .non H', rt := Q } (L2.start N vs) H) : FnG P w K mg base CX (k + 1) f fd ps sp := by
  obtain ⟨oc, od, kV, doc, pm, an, cdv, ct, osl, rfl, lk, hcd⟩ := F.ex
  refine ⟨len, fun A outer s H args us vs Q E hr hgd e0 hb r hsp => ?_⟩
  have hlen := len vs H Q E hsp
  have KX : K.In s.heap := e0.mod.kin.keeps fun b o z => (e0.bs b o z).1
  have lim : s.heap.NoLimit := e0.mod.nolimit.keeps fun b o z => (e0.bs b o z).1
  have kinds : ∀ y ∈ ps.zip us, (defScope st).names.lookup y.1 = some .local ∨ ((defScope st).names.lookup y.1 = some .cell ∧ ((cellsFrom (s.heap.objs.size + 1) (defScope st).names []).lookup y.1).isSome = true) := by
    rintro ⟨n, v⟩ hy
    cases S.par n (List.of_mem_zip hy).1 with
    | inl q => exact .inl q
    | inr q => exact .inr ⟨q, PySem.W.cellsFrom_some _ _ _ (.inl q)⟩
  refine codeAny_call_function hr.depth (KX f _ lk) rfl S.co S.gen rfl (PySem.W.codeRec_of KX hcd) (hb _ _ _ _ (wpAny_newFunctionEnv_cells S.kind kinds fun env he s1 ic => ?_))
  subst he
  refine ⟨lim.keeps ic.toInCall.keep, codeAny_func ?_⟩
  obtain ⟨t, ht, q⟩ := body cdv A outer s H vs Q E (hr.deeper _) hgd hsp
  have I := inv_start (CX := CX) (E := E) S hr.hd e0 hlen r ic
  have back : ∀ {σ' : L2.St} {H' : Hp} {v : V} {u : Value} {s' : Shared}, Inv (cxOf CX P w K mg base N qual (defScope st) f cdv A outer s H E) [] σ' H' s' → RelV v u → Q v H' → CE outer P w H s Q u s' :=
    fun {σ' H' v u s'} J rv qv => ⟨v, H', J.os, J.bare, J.base, J.hok, rv, qv⟩
  refine wpAny_mono (ht.run [] s1 (L2.start N vs) H _ I q) (fun fl s' z => ?_) fun _ _ z => z
  cases fl with
  | brk => obtain ⟨_, _, _, z⟩ := z; exact z.elim
  | cont => obtain ⟨_, _, _, z⟩ := z; exact z.elim
  | next =>
    obtain ⟨σ', H', J, z⟩ := z
    exact back (v := .non) (u := Value.none) J rfl z
  | ret u =>
    obtain ⟨v, σ', H', J, rv, z⟩ := z
    exact back J rv z
end
section
variable {X : Cx} {CX : CXT} {k : Nat} {f : Addr} {fd : FuncData} {ps : List Str} {sp : Sp} {E : XK}
theorem run_G {pins : List (Addr × Obj)} {σ : L2.St} {H : Hp} {s : Shared} {Q : VK} {us : List Value} {vs : List V} (F : FnG X.prog X.w X.K X.mg X.base CX k f fd ps sp) (hr : Room k X.A) (hgd : X.A.guards = some []) (hb : Binds X.K fd ps []) (hx : Passes CX X E)
    (I : Inv X pins σ H s) (r : Vals vs us) (h : sp vs H Q E) : wpAny (model X.prog X.w) X.A (call (.ref f) us) (EP X pins σ Q) X.xe s := by
  have hl : us.length = ps.length := r.length.symm.trans (F.len vs H Q E h)
  have bt : BindsTo s fd ⟨us, []⟩ (ps.zip us) := by
    have := hb s us I.kIn (by rw [List.append_nil]; exact hl)
    rwa [List.append_nil] at this
  refine wpAny_call (codeAny_mono (F.run X.A X.stack s H ⟨us, []⟩ us vs Q E hr hgd I.env0 bt r h) fun res s' z => ?_)
  match res, z with
  | .error e, z => exact hx pins σ H s e s' I z
  | .ok (.ret u), z => exact I.after z
  | .ok .next, z => exact z.elim
  | .ok .brk, z => exact z.elim
  | .ok .cont, z => exact z.elim
end
/-- what a def promises: what the evaluator says -/
def spM (K : PySem.W.Frag) (C : Calls') (f : Str) (n : Nat) : Sp := fun vs H Q _ => vs.length = n ∧ ∃ (c : Cfg) (h : Hh) (ds : List D), c.H = H ∧ WF K c h ∧ RelDs K c ds vs ∧ PostE K EW0 c Q (C f ds h)
/-- the defs that may be called -/
def CallsOk (P : Program) (w : World) (K : PySem.W.Frag) (mg : Str → Option Value) (base : Heap) (k : Nat) (C : Calls') (f : Str) : Prop :=
  ∃ (fa : Addr) (fd : FuncData) (ps : List Str), mg f = some (.ref fa) ∧ PySem.W.keepIn K (.ref fa) = true ∧ Binds K fd ps [] ∧ FnG P w K mg base CX0 k fa fd ps (spM K C f ps.length) ∧ ∀ (ds : List D) (h : Hh), ds.length ≠ ps.length → C f ds h = .bad
section
variable {X : Cx} {EW : EWish} {C : Calls'} {G : Str → Option D}
theorem pass0' : Passes CX0 X E0 := fun _ _ _ _ _ _ _ h => h.elim
theorem PostE.ew {K : PySem.W.Frag} {EW : EWish} {c : Cfg} {Q : VK} {res : Res R} (p : PostE K EW c Q res) (hx : ∀ x h, res ≠ .ex x h) : PostE K EW0 c Q res := by
  cases res with
  | bad => exact p
  | ok r h => exact p
  | ex x h => exact absurd rfl (hx x h)
theorem call_red {f : Str} {n : Nat} {ms : Es} (hb : ∀ (ds : List D) (h : Hh), ds.length ≠ n → C f ds h = .bad) : ∀ σ H Q, tE X.K EW0 C G (.call f ms) σ H Q → tA X.K EW0 C G ms σ H (fun vs H1 => spM X.K C f n vs H1 Q E0) := fun σ H Q w => by
  obtain ⟨He, c, h, env, rfl, wf, re, p⟩ := w
  unfold evalE at p
  refine ⟨He, c, h, env, rfl, wf, re, p.bind fun ds h1 c1 vs le1 wf1 r1 p1 => ?_⟩
  by_cases hl : ds.length = n
  · exact ⟨by rw [← RelDs.length r1]; exact hl, c1, h1, ds, rfl, wf1, r1, PostE.lift le1 p1⟩
  · rw [hb ds h1 hl] at p1
    exact False.elim p1
theorem sim_call {f : Str} {k : Nat} {e : Expr} {es : List Expr} {ms : Es} {p pos : Pos} (ok : CallsOk X.prog X.w X.K X.mg X.base k C f) (hr : Room k X.A) (hgd : X.A.guards = some []) (ha : PA X (e :: es) (tA X.K EW0 C G ms)) (hg : Gl X f := by rfl)
    (hdb : (f == ("__debug__" : Str)) = false := by decide) (he : starEach (e :: es) X.env = (false, eval e X.env) :: starEach es X.env := by rfl) (hpl : (backTo pos (starEach es X.env)).any (·.1) = false := by rfl) : PE X (.Call (.Name f p) (e :: es) [] pos) (tE X.K EW0 C G (.call f ms)) := by
  obtain ⟨fa, fd, ps, h1, h2, h3, F, h4⟩ := ok
  refine ⟨fun pins s σ H Q I w => ?_⟩
  refine wpAny_Call_Name_kw (ld_glob I hg h1 ?_ hdb)
  refine PySem.W.callWith_K (h₀ := X.base) I.ok.mod.kin h2 (thn (ha.run pos pins s σ H _ I (call_red h4 σ H Q w)) fun us s1 ⟨vs, H1, I1, r, q⟩ => ⟨I1.kIn, ?_⟩) he hpl
  exact run_G F hr hgd h3 pass0' I1 r q
theorem sim_call0 {f : Str} {k : Nat} {p pos : Pos} (ok : CallsOk X.prog X.w X.K X.mg X.base k C f) (hr : Room k X.A) (hgd : X.A.guards = some []) (hg : Gl X f := by rfl)
    (hdb : (f == ("__debug__" : Str)) = false := by decide) : PE X (.Call (.Name f p) [] [] pos) (tE X.K EW0 C G (.call f .nil)) := by
  obtain ⟨fa, fd, ps, h1, h2, h3, F, h4⟩ := ok
  refine ⟨fun pins s σ H Q I w => ?_⟩
  refine wpAny_Call_Name_kw (ld_glob I hg h1 ?_ hdb)
  refine PySem.W.callWith_K0 I.kIn h2 (run_G (us := []) F hr hgd h3 pass0' I .nil ?_)
  obtain ⟨He, c, h, env, rfl, wf, re, q⟩ := call_red h4 σ H Q w
  unfold evalEs at q
  exact q c [] (Le.refl c) wf RelDs.nil
end
/-! ### all defs of a table -/
/-- what a body may lean on -/
structure Has (X : Cx) (k : Nat) (C : Calls') (G : Str → Option D) (T : Tab) (bs : List Str) : Prop where
  room : Room k X.A
  gd : X.A.guards = some []
  glob : Glob X.K X.mg G
  call : ∀ f d, T f = some d → CallsOk X.prog X.w X.K X.mg X.base k C f
  blt : ∀ b ∈ bs, X.mg b = none
section
variable {X : Cx} {k : Nat} {C : Calls'} {G : Str → Option D} {T : Tab} {bs : List Str}
theorem Has.hu (h : Has X k C G T bs) : X.A.units + 200 < cLine := by have := h.room.un; omega
theorem Has.hu64 (h : Has X k C G T bs) : X.A.units + 64 < cLine := by have := h.room.un; omega
theorem Has.no (h : Has X k C G T bs) {b : Str} (hb : bs.contains b = true := by decide +kernel) : X.mg b = none := h.blt b (by simpa using hb)
theorem Has.blk (h : Has X k C G T bs) (s : Shared) (H : Hp) (scope : Scope) (ce : Env) (fp : List Addr) : Has (X.blk s H scope ce fp) k C G T bs := ⟨h.room, h.gd, h.glob, h.call, h.blt⟩
end
/-- a def of the text with its small body: at every call the machine does what the small body says -/
def Tied (P : Program) (w : World) (K : PySem.W.Frag) (mg : Str → Option Value) (base : Heap) (T : Tab) (G : Str → Option D) (bs : List Str) (f : Str) (d : Fn) : Prop :=
  ∃ (fa : Addr) (fd : FuncData) (ps N : List Str) (st : Stmt) (qual : Str), mg f = some (.ref fa) ∧ Fun K f qual st fa fd ∧ Binds K fd ps [] ∧ FnScope N ps (defScope st) ∧ d.pars = ps.length ∧ d.slots = N.length ∧
    ∀ (k : Nat) (C : Calls') (cdv : Value) (A : Around) (outer : List Env) (s : Shared) (H : Hp), Has (cxOf CX0 P w K mg base N qual (defScope st) fa cdv A outer s H E0).nox k C G T bs → ∀ ce : Cfg,
      PSs (cxOf CX0 P w K mg base N qual (defScope st) fa cdv A outer s H E0).nox (defBody st) (tSs K EW0 C G ce d.body)
theorem run_bad {T : Tab} {G : Str → Option D} {n : Nat} {f : Str} {d : Fn} (e : T f = some d) (ds : List D) (h : Hh) (hl : ds.length ≠ d.pars) : run T G n f ds h = .bad := by
  cases n with
  | zero => rfl
  | succ n =>
    unfold run
    rw [e]
    show runBody _ G d ds h = _
    unfold runBody
    rw [if_neg hl]
theorem start_env {N ps : List Str} {d : Fn} {K : PySem.W.Frag} {c : Cfg} {ds : List D} {vs : List V} {He : Hp} (hN : d.slots = N.length) (hp : d.pars = ps.length) (hpl : ps.length ≤ N.length) (hl : vs.length = ps.length) (r : RelDs K c ds vs) :
    RelEnv K He c (d.env ds) (L2.start N vs) := by
  have el := RelDs.length r
  have no : ∀ (i : Nat) (l : List D), (d.env ds)[i]? ≠ some (.own l) := fun i l e => by
    unfold Fn.env at e
    by_cases hi : i < ds.length
    · rw [List.getElem?_append_left (by simpa using hi), List.getElem?_map] at e
      cases q : ds[i]? with
      | none => rw [q] at e; cases e
      | some x => rw [q] at e; cases e
    · rw [List.getElem?_append_right (by simpa using hi), List.getElem?_replicate] at e
      split at e <;> cases e
  refine ⟨?_, fun i s e => ?_, fun i j l m a e1 _ _ _ => absurd e1 (no i l)⟩
  · unfold Fn.env L2.start
    simp [hN, hp, hl, el]
  · unfold Fn.env at e
    by_cases hi : i < ds.length
    · rw [List.getElem?_append_left (by simpa using hi), List.getElem?_map] at e
      cases q : ds[i]? with
      | none => rw [q] at e; cases e
      | some x =>
        rw [q] at e
        cases e
        obtain ⟨v, h1, h2⟩ := RelDs.get r q
        refine ⟨some v, ?_, v, rfl, h2⟩
        unfold L2.start
        rw [List.getElem?_append_left (by simpa using (by omega : i < vs.length)), List.getElem?_map, h1]
        rfl
    · have hi2 : ¬ i < (ds.map Slot.val).length := by simpa using hi
      have hlt := (List.getElem?_eq_some_iff.mp e).1
      rw [List.getElem?_append_right (Nat.le_of_not_lt hi2), List.getElem?_replicate] at e
      split at e
      · rename_i hr
        cases e
        refine ⟨none, ?_, True.intro⟩
        unfold L2.start
        rw [List.getElem?_append_right (by simp; omega), List.getElem?_replicate, if_pos]
        simp only [List.length_map] at hr ⊢
        omega
      · cases e
/-- every def of the table keeps its promise, at every level -/
theorem all_defs {P : Program} {w : World} {K : PySem.W.Frag} {mg : Str → Option Value} {base : Heap} {T : Tab} {G : Str → Option D} {bs : List Str} (gl : Glob K mg G) (hb : ∀ b ∈ bs, mg b = none) (tied : ∀ f d, T f = some d → Tied P w K mg base T G bs f d) :
    ∀ (n : Nat) (f : Str) (d : Fn), T f = some d → CallsOk P w K mg base n (run T G n) f := by
  intro n
  induction n with
  | zero =>
    intro f d e
    obtain ⟨fa, fd, ps, N, st, qual, h1, F, h2, S, h3, h4, _⟩ := tied f d e
    refine ⟨fa, fd, ps, h1, F.kp, h2, ⟨fun vs H Q E z => z.1, fun A outer s H args us vs Q E _ _ _ _ _ z => ?_⟩, fun ds h hl => run_bad e ds h (by rw [h3]; exact hl)⟩
    obtain ⟨_, c, h, ds, _, _, _, p⟩ := z
    exact False.elim p
  | succ n ih =>
    intro f d e
    obtain ⟨fa, fd, ps, N, st, qual, h1, F, h2, S, h3, h4, body⟩ := tied f d e
    have hpl : ps.length ≤ N.length := by have := congrArg List.length S.pre; rw [List.length_take] at this; omega
    refine ⟨fa, fd, ps, h1, F.kp, h2, fnG_of F S (fun vs H Q E z => z.1) fun cdv A outer s H vs Q E hr hgd z => ?_, fun ds h hl => run_bad e ds h (by rw [h3]; exact hl)⟩
    obtain ⟨hl, c, h, ds, rfl, wf, r, p⟩ := z
    have hs : Has (cxOf CX0 P w K mg base N qual (defScope st) fa cdv A outer s c.H E0).nox n (run T G n) G T bs := ⟨hr, hgd, gl, fun g d' e' => ih g d' e', hb⟩
    refine ⟨_, PSs.nox (body n (run T G n) cdv A outer s c.H hs c), ?_⟩
    refine ⟨c, h, d.env ds, rfl, wf, Le.refl c, start_env h4 h3 hpl hl r, ?_⟩
    have el := RelDs.length r
    unfold run at p
    rw [e] at p
    simp only [runBody] at p
    rw [if_pos (by rw [el, hl, h3])] at p
    cases q : execSs (run T G n) G d.body (d.env ds) h with
    | bad => rw [q] at p; exact p
    | ex x h' => rw [q] at p; exact fun c' l w' => p c' l w'
    | ok fl h' =>
      rw [q] at p
      intro c' le' st' wf'
      cases fl with
      | nx env' => exact fun σ' re' => p c' .non le' wf' ⟨show RelD K c' .non .non by unfold RelD; rfl, True.intro⟩
      | bk env' => exact False.elim p
      | ct env' => exact False.elim p
      | rt r' => exact fun v rr fr => p c' v le' wf' ⟨rr, fr⟩
end Mi
/-! Mi9: the law's own call, the end of a row. -/
namespace Mi
open PySem PySem.Spec PyProof.Rows L2

/-- the abstract heap at the law's entry: the script, if it is no object of the module -/
def scriptH (a : Addr) (o : Obj) (ns : List Int) (yes : Bool) : Hp := fun b => if b = a ∧ yes = true then some (.frz o (.lst (ns.map V.int))) else none
theorem scriptH_at {a : Addr} {o : Obj} {ns : List Int} : scriptH a o ns true a = some (.frz o (.lst (ns.map V.int))) := if_pos ⟨rfl, rfl⟩
theorem scriptH_some {a b : Addr} {o : Obj} {ns : List Int} {yes : Bool} {u : HO} (h : scriptH a o ns yes b = some u) : b = a ∧ yes = true ∧ u = .frz o (.lst (ns.map V.int)) := by
  unfold scriptH at h
  split at h
  · rename_i z
    cases h
    exact ⟨z.1, z.2, rfl⟩
  · cases h
theorem lawG {P : Program} {w : World} {K : PySem.W.Frag} {mg mb : Str → Option Value} {k : Nat} {fa a : Addr} {sp : Sp} {s1 : Shared} {vs : List Value} {ns : List Int}
    (KX : K.In s1.heap) (gns : s1.heap.Ns mainGlobals mg) (bns : s1.heap.Ns builtinsNs mb) (bb : ∀ x : Str, x ≠ "__name__" → mb x = bootBuiltins x) (lim : s1.heap.NoLimit) (gen : s1.gens = #[])
    (ha : s1.heap.get? a = some { cls := .type "list", data := .seq vs.toArray }) (hi : IntsAre vs ns) (hl : ns.length ≤ sizeLine) (hr : Room k callerA)
    (F : ∀ base : Heap, K.In base → base.Ns mainGlobals mg → ∃ (fd : FuncData) (x : Str), Binds K fd [x] [] ∧ FnG P w K mg base CX0 k fa fd [x] sp)
    (hsp : ∀ H : Hp, ArgL K H a (ns.map V.int) → sp [.ref a] H (fun v _ => v = .bl true) E0) :
    codeAny (model P w) callerA (.call (.ref fa) ⟨[.ref a], []⟩) (fun r s' => r = .ok (.ret (.bool true)) ∧ OldK s1.heap s'.heap ∧ s'.os = s1.os ∧ AllBare s'.gens) s1 := by
  have rv := vals_ints hi
  obtain ⟨yes, hy⟩ : ∃ yes : Bool, (yes = true ↔ K.lookup a = none) := by
    cases h : K.lookup a with
    | none => exact ⟨true, by simp⟩
    | some o => exact ⟨false, by simp⟩
  let ob : Obj := { cls := .type "list", data := .seq vs.toArray }
  let H := scriptH a ob ns yes
  have hok : HOk P w H s1.heap := fun b u e => by
    obtain ⟨rfl, _, rfl⟩ := scriptH_some e
    exact ⟨ha, by rw [List.length_map]; exact hl, vs, _, rv, ha⟩
  have free : ∀ {b : Addr} {o : Obj} {es : Array DictEntry} {ep : Nat}, s1.heap.get? b = some o → o.data = .dict es ep → H b = none := fun {b o es ep} e d => by
    cases q : H b with
    | none => rfl
    | some u =>
      obtain ⟨rfl, _, _⟩ := scriptH_some q
      rw [ha] at e
      cases e
      cases d
  have nsIn : ∀ {b : Addr} {m : Str → Option Value}, s1.heap.Ns b m → (hidT s1.heap H).Ns b m := fun {b m} ⟨o, es, ep, e, d, r⟩ => ⟨o, es, ep, hidT_get e (free e d), d, r⟩
  have Kb : K.In (hidT s1.heap H) := fun b o e => hidT_get (KX b o e) (by
    cases q : H b with
    | none => rfl
    | some u =>
      obtain ⟨rfl, z, _⟩ := scriptH_some q
      rw [hy.mp z] at e
      cases e)
  have lim' : (hidT s1.heap H).NoLimit := by
    obtain ⟨mc, h1, h2⟩ := lim
    exact ⟨mc, nsIn h1, h2⟩
  have M : Mod K mg (hidT s1.heap H) := ⟨Kb, nsIn gns, ⟨mb, nsIn bns, bb⟩, lim'⟩
  have none_in : ∀ b, b ∉ frs ([] : List Env) := fun b z => by
    have z' : b ∈ ([] : List Addr) := z
    cases z'
  have e0 : Env0 P w K mg (hidT s1.heap H) callerA [] s1 H := ⟨rfl, M, fun b o e => of_hidT e, Nat.le_of_eq (hidT_size _ _), trivial, fun b z => absurd z (none_in b), hok, .of_eq gen⟩
  have arg : ArgL K H a (ns.map V.int) := by
    cases h : K.lookup a with
    | none =>
      have y : yes = true := hy.mpr h
      refine .inl ⟨ob, ?_⟩
      show scriptH a ob ns yes a = _
      rw [y]; exact scriptH_at
    | some o =>
      have e := KX a o h
      rw [ha] at e
      cases e
      exact .inr ⟨_, vs.toArray, _, h, rfl, rfl, rfl, by rw [List.size_toArray, hi.length]; exact hl, by simpa using rv⟩
  obtain ⟨fd, x, bt, FG⟩ := F _ Kb (nsIn gns)
  refine codeAny_mono (FG.run callerA [] s1 H ⟨[.ref a], []⟩ [.ref a] [.ref a] _ E0 hr rfl e0 (bt s1 [.ref a] KX rfl) (.cons rfl .nil) (hsp H arg)) fun res s' z => ?_
  match res, z with
  | .error e, z => exact z.elim
  | .ok .next, z => exact z.elim
  | .ok .brk, z => exact z.elim
  | .ok .cont, z => exact z.elim
  | .ok (.ret u), z =>
    obtain ⟨v, H', os, bare, un, hok', r', q⟩ := z
    have q : v = .bl true := q
    subst q
    have r' : u = Value.bool true := r'
    subst r'
    refine ⟨rfl, OldK.of_keep fun b o e => ?_, os, bare⟩
    cases q : H b with
    | none => exact un.keep b o e q (none_in b) (by simp)
    | some u =>
      obtain ⟨rfl, _, rfl⟩ := scriptH_some q
      obtain ⟨g1, _⟩ := hok' _ _ (un.frzs _ _ _ q)
      rw [ha] at e
      cases e
      exact g1
/-- the script as data -/
def scriptD (ns : List Int) : D := .arg (ns.map .int)
theorem rel_ints {K : PySem.W.Frag} {c : Cfg} : ∀ ns : List Int, RelDs K c (ns.map .int) (ns.map V.int)
  | [] => RelDs.nil
  | n :: ns => RelDs.cons (by unfold RelD; rfl) (rel_ints ns)
theorem no_wf {K : PySem.W.Frag} {H : Hp} : WF K ⟨H, fun _ => 0, fun _ => False, 0⟩ [] :=
  ⟨rfl, fun k o e => by simp at e, fun j k h _ _ => absurd h (Nat.not_lt_zero _), fun k h _ => absurd h (Nat.not_lt_zero _), fun a h => h.elim⟩
/-- THE END: every def tied, and the evaluator says True of each script -/
theorem walkG {l : PySem.W.OpenLaw} {n k : Nat} {q : Program} {loose : List Str} {XP : (Str → Option Value) → Heap → Prop} {YP : World → Heap → Prop} {d : DefRec} {K : Params → PySem.W.Frag} {T : Tab} {G : Str → Option D} {bs : List Str}
    (hn : l.most = some n) (hn2 : n ≤ sizeLine) (hdf : d.params.defaults = []) (hr : Room k callerA) (hY : ∀ (w : World) (h : Heap), YP w h → (K w.params).In h)
    (F : ∀ (w : World) (mg : Str → Option Value) (h : Heap), (K w.params).In h → h.Ns mainGlobals mg → Glob (K w.params) mg G ∧ (∀ b ∈ bs, mg b = none) ∧ ∀ f e, T f = some e → ∀ base : Heap, Tied l.prog w (K w.params) mg base T G bs f e)
    {e : Fn} (hT : T d.name = some e) (run1 : ∀ ns : List Int, ns.length ≤ n → ∃ h', run T G k d.name [scriptD ns] [] = .ok (.dat (.bl true)) h') :
    PySem.W.WalkO q loose XP YP l.row.toRowW d [] (fun f vs => PySem.call f vs) := by
  refine Att.attach_call hn hdf fun w s0 s1 mg mb fa o pm cd doc a vs ns Gr Y ho hd hcd hmg hobj hints hlen hg => ?_
  have KX := hY w _ Y
  obtain ⟨gl, hb, tied⟩ := F w mg _ KX Gr.T.g
  obtain ⟨h', e1⟩ := run1 ns hlen
  refine lawG KX Gr.T.g Gr.T.b Gr.T.builtins Gr.T.nolimit hg hobj hints (Nat.le_trans hlen hn2) hr (sp := spM (K w.params) (run T G k) d.name 1) (fun base kb gb => ?_) fun H arg => ?_
  · obtain ⟨fa2, fd2, ps2, g1, g2, g3, g4, g5⟩ := all_defs gl hb (fun f e hf => tied f e hf base) k d.name e hT
    rw [hmg] at g1
    cases g1
    have l1 : ps2.length = 1 := Classical.byContradiction fun z => by
      rw [g5 [scriptD ns] [] (fun z' => z z'.symm)] at e1
      cases e1
    obtain ⟨x, rfl⟩ := List.length_eq_one_iff.mp l1
    exact ⟨fd2, x, g3, g4⟩
  · refine ⟨rfl, ⟨H, fun _ => 0, fun _ => False, 0⟩, [], [scriptD ns], rfl, no_wf, RelDs.one ?_, ?_⟩
    · unfold scriptD RelD
      exact ⟨a, _, rfl, arg, rel_ints ns⟩
    · rw [e1]
      intro c' v _ _ r
      have q : RelD (K w.params) c' (.bl true) v := r.1
      unfold RelD at q
      exact q
end Mi
/-! Mi10: what the top has written, by lists. -/
namespace Mi
open PySem PySem.Spec PyProof.Rows L2

inductive GlobL (K : PySem.W.Frag) (mg : Str → Option Value) : List (Str × D) → Prop where
  | nil : GlobL K mg []
  | cons {x : Str} {d : D} {l : List (Str × D)} (h : ∃ v u, mg x = some u ∧ RelV v u ∧ ∀ c, RelD K c d v) (t : GlobL K mg l) : GlobL K mg ((x, d) :: l)
theorem lookup_cons {α : Type} {x y : Str} {d : α} {l : List (Str × α)} {e : α} (h : ((x, d) :: l).lookup y = some e) : (y = x ∧ e = d) ∨ l.lookup y = some e := by
  rw [List.lookup_cons] at h
  by_cases q : y = x
  · subst q
    rw [beq_self_eq_true] at h
    exact .inl ⟨rfl, (Option.some.inj h).symm⟩
  · have : (y == x) = false := by simpa using q
    rw [this] at h
    exact .inr h
theorem glob_all {K : PySem.W.Frag} {mg : Str → Option Value} {l : List (Str × D)} (h : GlobL K mg l) : Glob K mg fun x => l.lookup x := by
  intro x d e
  induction h with
  | nil => cases e
  | cons h t ih =>
    rcases lookup_cons e with ⟨rfl, rfl⟩ | e
    · exact h
    · exact ih e
inductive NoneL (mg : Str → Option Value) : List Str → Prop where
  | nil : NoneL mg []
  | cons {x : Str} {l : List Str} (h : mg x = none) (t : NoneL mg l) : NoneL mg (x :: l)
theorem none_all {mg : Str → Option Value} {l : List Str} (h : NoneL mg l) : ∀ b ∈ l, mg b = none := by
  induction h with
  | nil => intro b hb; cases hb
  | cons h t ih =>
    intro b hb
    rcases List.mem_cons.mp hb with rfl | hb
    · exact h
    · exact ih b hb
inductive TiedL (P : Program) (w : World) (K : PySem.W.Frag) (mg : Str → Option Value) (T : Tab) (G : Str → Option D) (bs : List Str) : List (Str × Fn) → Prop where
  | nil : TiedL P w K mg T G bs []
  | cons {x : Str} {d : Fn} {l : List (Str × Fn)} (h : ∀ base : Heap, Tied P w K mg base T G bs x d) (t : TiedL P w K mg T G bs l) : TiedL P w K mg T G bs ((x, d) :: l)
theorem tied_all {P : Program} {w : World} {K : PySem.W.Frag} {mg : Str → Option Value} {T : Tab} {G : Str → Option D} {bs : List Str} {l : List (Str × Fn)} (h : TiedL P w K mg T G bs l) :
    ∀ f e, l.lookup f = some e → ∀ base : Heap, Tied P w K mg base T G bs f e := by
  intro f e q
  induction h with
  | nil => cases q
  | cons h t ih =>
    rcases lookup_cons q with ⟨rfl, rfl⟩ | q
    · exact h
    · exact ih q
/-- a value of the top is this plain constant -/
def conV : Value → D → Bool
  | .none, .non => true
  | .bool a, .bl b => a == b
  | .int i _, .int j => i == j
  | .str s _, .str t => s == t
  | _, _ => false
theorem conV_rel {K : PySem.W.Frag} : ∀ {u : Value} {d : D}, conV u d = true → ∃ v, RelV v u ∧ ∀ c, RelD K c d v := by
  intro u d h
  unfold conV at h
  split at h
  · exact ⟨.non, rfl, fun c => by unfold RelD; rfl⟩
  · rename_i a b
    obtain rfl : a = b := by simpa using h
    exact ⟨.bl a, rfl, fun c => by unfold RelD; rfl⟩
  · rename_i a _ b
    obtain rfl : a = b := by simpa using h
    exact ⟨.int a, ⟨_, rfl⟩, fun c => by unfold RelD; rfl⟩
  · rename_i a _ b
    obtain rfl : a = b := by simpa using h
    exact ⟨.str a, ⟨_, rfl⟩, fun c => by unfold RelD; rfl⟩
  · cases h
def conVs : List Value → List D → Bool
  | [], [] => true
  | u :: us, d :: ds => conV u d && conVs us ds
  | _, _ => false
theorem conVs_rel {K : PySem.W.Frag} : ∀ {us : List Value} {ds : List D}, conVs us ds = true → ∃ vs, Vals vs us ∧ ∀ c, RelDs K c ds vs
  | [], [], _ => ⟨[], .nil, fun c => by unfold RelDs; rfl⟩
  | u :: us, d :: ds, h => by
    unfold conVs at h
    simp only [Bool.and_eq_true] at h
    obtain ⟨v, h1, h2⟩ := conV_rel (K := K) h.1
    obtain ⟨vs, h3, h4⟩ := conVs_rel (K := K) h.2
    exact ⟨v :: vs, .cons h1 h3, fun c => RelDs.cons (h2 c) (h4 c)⟩
  | [], _ :: _, h => by unfold conVs at h; cases h
  | _ :: _, [], h => by unfold conVs at h; cases h
def conOk : Obj → D → Bool
  | ⟨.type n, _, .seq its _, _⟩, .tup l => (n == "tuple") && decide (its.size ≤ sizeLine) && conVs its.toList l
  | _, _ => false
theorem glob_val {K : PySem.W.Frag} {mg : Str → Option Value} {x : Str} {u : Value} {d : D} (h : mg x = some u) (k : conV u d = true) : ∃ v u, mg x = some u ∧ RelV v u ∧ ∀ c, RelD K c d v := by
  obtain ⟨v, h1, h2⟩ := conV_rel (K := K) k
  exact ⟨v, u, h, h1, h2⟩
theorem glob_tup {K : PySem.W.Frag} {mg : Str → Option Value} {x : Str} {a : Addr} {o : Obj} {d : D} (h : mg x = some (.ref a)) (l : K.lookup a = some o) (k : conOk o d = true) : ∃ v u, mg x = some u ∧ RelV v u ∧ ∀ c, RelD K c d v := by
  unfold conOk at k
  split at k
  · rename_i n od its m sl ds
    simp only [Bool.and_eq_true, decide_eq_true_eq, beq_iff_eq] at k
    obtain ⟨⟨rfl, k2⟩, k3⟩ := k
    obtain ⟨vs, h1, h2⟩ := conVs_rel (K := K) k3
    refine ⟨.ref a, .ref a, h, rfl, fun c => ?_⟩
    unfold RelD
    exact ⟨a, vs, rfl, .inr ⟨_, its, m, l, rfl, rfl, k2, h1⟩, h2 c⟩
  · cases k
end Mi
/-! Mi11: reckoning with the evaluator. -/
namespace Mi
open PySem PySem.Spec PyProof.Rows L2

/-- it ends well, so that Q -/
def ev {α : Type} (r : Res α) (Q : α → Hh → Prop) : Prop := match r with
  | .ok a h => Q a h
  | _ => False
theorem ev_ok {α : Type} {a : α} {h : Hh} {Q : α → Hh → Prop} : ev (.ok a h) Q = Q a h := rfl
theorem ev_bad {α : Type} {Q : α → Hh → Prop} : ev (.bad : Res α) Q = False := rfl
theorem ev_ex {α : Type} {x : Exc} {h : Hh} {Q : α → Hh → Prop} : ev (.ex x h : Res α) Q = False := rfl
theorem ev_mono {α : Type} {r : Res α} {P Q : α → Hh → Prop} (p : ev r P) (k : ∀ a h, P a h → Q a h) : ev r Q := by
  cases r with
  | ok a h => exact k a h p
  | _ => exact p
theorem ev_bind {α β : Type} {r : Res α} {f : α → Hh → Res β} {Q : β → Hh → Prop} : ev (r.bind f) Q = ev r fun a h => ev (f a h) Q := by
  cases r <;> rfl
theorem ev_iff {α : Type} {r : Res α} {Q : α → Hh → Prop} : ev r Q ↔ ∃ a h, r = .ok a h ∧ Q a h := by
  cases r with
  | ok a h => exact ⟨fun q => ⟨a, h, rfl, q⟩, fun ⟨_, _, e, q⟩ => by cases e; exact q⟩
  | _ => exact ⟨fun q => q.elim, fun ⟨_, _, e, _⟩ => by cases e⟩
theorem bind_ok {α β : Type} {a : α} {h : Hh} {f : α → Hh → Res β} : (Res.ok a h).bind f = f a h := rfl
theorem bind_bad {α β : Type} {f : α → Hh → Res β} : (Res.bad : Res α).bind f = .bad := rfl
theorem bind_ex {α β : Type} {x : Exc} {h : Hh} {f : α → Hh → Res β} : (Res.ex x h : Res α).bind f = .ex x h := rfl
def ofR {α β : Type} (h : Hh) (o : Option α) (k : α → β) : Res β := Res.of h (o.map k)
theorem of_some {α : Type} {h : Hh} {a : α} : Res.of h (some a) = .ok a h := rfl
theorem of_none {α : Type} {h : Hh} : Res.of h (none : Option α) = .bad := rfl
/-! helpers with one eye -/
def fzR {α : Type} (x : R) (k : D → Res α) : Res α := match x.fz with
  | some d => k d
  | none => .bad
theorem fzR_dat {α : Type} {d : D} {k : D → Res α} : fzR (.dat d) k = k d := rfl
theorem fzR_new {α : Type} {l : List D} {k : D → Res α} : fzR (.new l) k = k (.lst l) := rfl
/-- a truth decides -/
def brR {α : Type} (x : R) (a b : Res α) : Res α := match x with
  | .dat (.bl true) => a
  | .dat (.bl false) => b
  | _ => .bad
theorem brR_true {α : Type} {a b : Res α} : brR (.dat (.bl true)) a b = a := rfl
theorem brR_false {α : Type} {a b : Res α} : brR (.dat (.bl false)) a b = b := rfl
theorem brR_pos {α : Type} {p : Bool} {a b : Res α} (h : p = true) : brR (.dat (.bl p)) a b = a := by rw [h]; rfl
theorem brR_neg {α : Type} {p : Bool} {a b : Res α} (h : p = false) : brR (.dat (.bl p)) a b = b := by rw [h]; rfl
theorem ev_br {α : Type} {p : Bool} {a b : Res α} {Q : α → Hh → Prop} (h1 : p = true → ev a Q) (h2 : p = false → ev b Q) : ev (brR (.dat (.bl p)) a b) Q := by
  cases p with
  | true => exact h1 rfl
  | false => exact h2 rfl
def seqR (r : Res Fl) (k : Env' → Hh → Res Fl) : Res Fl := match r with
  | .ok (.nx e) h => k e h
  | r => r
theorem seqR_nx {e : Env'} {h : Hh} {k : Env' → Hh → Res Fl} : seqR (.ok (.nx e) h) k = k e h := rfl
theorem seqR_rt {r : R} {h : Hh} {k : Env' → Hh → Res Fl} : seqR (.ok (.rt r) h) k = .ok (.rt r) h := rfl
theorem seqR_bk {e : Env'} {h : Hh} {k : Env' → Hh → Res Fl} : seqR (.ok (.bk e) h) k = .ok (.bk e) h := rfl
theorem seqR_ct {e : Env'} {h : Hh} {k : Env' → Hh → Res Fl} : seqR (.ok (.ct e) h) k = .ok (.ct e) h := rfl
def contF (Q : Fl → Hh → Prop) (k : Env' → Hh → Res Fl) : Fl → Hh → Prop := fun fl h => match fl with
  | .nx e => ev (k e h) Q
  | fl => Q fl h
theorem ev_seq {r : Res Fl} {k : Env' → Hh → Res Fl} {Q : Fl → Hh → Prop} : ev (seqR r k) Q = ev r (contF Q k) := by
  cases r with
  | ok fl h => cases fl <;> rfl
  | _ => rfl
theorem contF_nx {Q : Fl → Hh → Prop} {k : Env' → Hh → Res Fl} {e : Env'} {h : Hh} : contF Q k (.nx e) h = ev (k e h) Q := rfl
theorem contF_rt {Q : Fl → Hh → Prop} {k : Env' → Hh → Res Fl} {e : R} {h : Hh} : contF Q k (.rt e) h = Q (.rt e) h := rfl
theorem contF_bk {Q : Fl → Hh → Prop} {k : Env' → Hh → Res Fl} {e : Env'} {h : Hh} : contF Q k (.bk e) h = Q (.bk e) h := rfl
theorem contF_ct {Q : Fl → Hh → Prop} {k : Env' → Hh → Res Fl} {e : Env'} {h : Hh} : contF Q k (.ct e) h = Q (.ct e) h := rfl
def getV (s : Option Slot) (h : Hh) : Res R := match s with
  | some (.val d) => .ok (.dat d) h
  | some (.own l) => .ok (.bor l) h
  | _ => .bad
theorem getV_val {d : D} {h : Hh} : getV (some (.val d)) h = .ok (.dat d) h := rfl
theorem getV_own {d : List D} {h : Hh} : getV (some (.own d)) h = .ok (.bor d) h := rfl
def lenR (ds : List D) (a : Res R) : Res R := if ds.length ≤ sizeLine then a else .bad
theorem lenR_ok {ds : List D} {a : Res R} (h : ds.length ≤ sizeLine) : lenR ds a = a := if_pos h
def ownR (s : Option Slot) (k : List D → Res Fl) : Res Fl := match s with
  | some (.own l) => k l
  | _ => .bad
theorem ownR_own {l : List D} {k : List D → Res Fl} : ownR (some (.own l)) k = k l := rfl
def newR {α : Type} (x : R) (k : List D → Res α) : Res α := match x with
  | .new l => k l
  | _ => .bad
theorem newR_new {α : Type} {l : List D} {k : List D → Res α} : newR (.new l) k = k l := rfl
def optR {α β : Type} (x : Option α) (k : α → Res β) : Res β := match x with
  | some a => k a
  | none => .bad
theorem optR_some {α β : Type} {a : α} {k : α → Res β} : optR (some a) k = k a := rfl
def tupR {α : Type} (x : R) (k : List D → Res α) : Res α := match x with
  | .dat (.tup l) => k l
  | _ => .bad
theorem tupR_tup {α : Type} {l : List D} {k : List D → Res α} : tupR (.dat (.tup l)) k = k l := rfl
def strR {α : Type} (x : R) (k : Str → Res α) : Res α := match x with
  | .dat (.str l) => k l
  | _ => .bad
theorem strR_str {α : Type} {l : Str} {k : Str → Res α} : strR (.dat (.str l)) k = k l := rfl
def intR {α : Type} (x : R) (k : Int → Res α) : Res α := match x with
  | .dat (.int l) => k l
  | _ => .bad
theorem intR_int {α : Type} {l : Int} {k : Int → Res α} : intR (.dat (.int l)) k = k l := rfl
def proR (x : R) (h : Hh) : Res R := match x with
  | .new l => .ok (.dat (.ref h.length)) (h ++ [.lst l])
  | .dat d => .ok (.dat d) h
  | .bor _ => .bad
theorem proR_new {l : List D} {h : Hh} : proR (.new l) h = .ok (.dat (.ref h.length)) (h ++ [.lst l]) := rfl
theorem proR_dat {d : D} {h : Hh} : proR (.dat d) h = .ok (.dat d) h := rfl
def setLR (x : R) (y : R) (d : D) (env : Env') (h : Hh) : Res Fl := match x, y with
  | .dat (.ref n), .dat (.int i) => match h[n]? with
    | some (.lst l) => match ixN l.length i with
      | some j => .ok (.nx env) (h.set n (.lst (l.set j d)))
      | none => .bad
    | _ => .bad
  | _, _ => .bad
theorem setLR_ok {n : Nat} {i : Int} {l : List D} {j : Nat} {d : D} {env : Env'} {h : Hh} (e : h[n]? = some (.lst l)) (q : ixN l.length i = some j) : setLR (.dat (.ref n)) (.dat (.int i)) d env h = .ok (.nx env) (h.set n (.lst (l.set j d))) := by
  simp only [setLR, e, q]
def setDR (x : R) (y : R) (d : D) (env : Env') (h : Hh) : Res Fl := match x, y with
  | .dat (.ref n), .dat kd => match h[n]?, keyOf kd with
    | some (.dct l), some kk => if l.length < sizeLine then .ok (.nx env) (h.set n (.dct (dPut l kk d))) else .bad
    | _, _ => .bad
  | _, _ => .bad
theorem setDR_ok {n : Nat} {kd : D} {l : List (Key × D)} {kk : Key} {d : D} {env : Env'} {h : Hh} (e : h[n]? = some (.dct l)) (q : keyOf kd = some kk) (z : l.length < sizeLine) : setDR (.dat (.ref n)) (.dat kd) d env h = .ok (.nx env) (h.set n (.dct (dPut l kk d))) := by
  simp only [setDR, e, q, if_pos z]
def setOR (l : List D) (i : Nat) (y : R) (d : D) (env : Env') (h : Hh) : Res Fl := match y with
  | .dat (.int z) => match ixN l.length z with
    | some j => .ok (.nx (env.set i (.own (l.set j d)))) h
    | none => .bad
  | _ => .bad
theorem setOR_ok {l : List D} {i j : Nat} {z : Int} {d : D} {env : Env'} {h : Hh} (q : ixN l.length z = some j) : setOR l i (.dat (.int z)) d env h = .ok (.nx (env.set i (.own (l.set j d)))) h := by
  simp only [setOR, q]
def appR (l : List D) (i : Nat) (d : D) (env : Env') (h : Hh) : Res Fl := if l.length < sizeLine then .ok (.nx (env.set i (.own (l ++ [d])))) h else .bad
theorem appR_ok {l : List D} {i : Nat} {d : D} {env : Env'} {h : Hh} (z : l.length < sizeLine) : appR l i d env h = .ok (.nx (env.set i (.own (l ++ [d])))) h := if_pos z
def retR (x : R) (h : Hh) : Res Fl := match x with
  | .bor _ => .bad
  | r => .ok (.rt r) h
theorem retR_dat {d : D} {h : Hh} : retR (.dat d) h = .ok (.rt (.dat d)) h := rfl
theorem retR_new {d : List D} {h : Hh} : retR (.new d) h = .ok (.rt (.new d)) h := rfl
def rngR (x y : R) (h : Hh) : Res (List D) := match x, y with
    | .dat (.int i), .dat (.int j) => if rngOk i && rngOk j then .ok (rngL i (j - i).toNat) h else .bad
    | _, _ => .bad
theorem rngR_ok {i j : Int} {h : Hh} (q : (rngOk i && rngOk j) = true) : rngR (.dat (.int i)) (.dat (.int j)) h = .ok (rngL i (j - i).toNat) h := by simp only [rngR, q, if_true]
def rng1R (x : R) (h : Hh) : Res (List D) := match x with
    | .dat (.int j) => if rngOk j then .ok (rngL 0 j.toNat) h else .bad
    | _ => .bad
theorem rng1R_ok {j : Int} {h : Hh} (q : rngOk j = true) : rng1R (.dat (.int j)) h = .ok (rngL 0 j.toNat) h := by simp only [rng1R, q, if_true]
section
variable (C : Calls') (G : Str → Option D)
/-- a comprehension's walk -/
def compR (own : List Nat) (t : Tg) (c e : E) (env : Env') (ds : List D) (h : Hh) : Res R := compLoop (compF C G own t c e env) ds [] h
def forR (t : Tg) (b : Ss) (ds : List D) (env : Env') (h : Hh) : Res Fl := forLoop t (fun env' h' => execSs C G b env' h') ds env h
def whlR (c : E) (b : Ss) (n : Nat) (env : Env') (h : Hh) : Res Fl := whlLoop (fun env' h' => evalE C G c env' h') (fun env' h' => execSs C G b env' h') n env h
end
section
variable {C : Calls'} {G : Str → Option D} {env : Env'} {h : Hh}
theorem x_var {i : Nat} : evalE C G (.var i) env h = getV env[i]? h := by
  conv => lhs; unfold evalE
  rfl
theorem x_con {d : D} : evalE C G (.con d) env h = .ok (.dat d) h := by conv => lhs; unfold evalE
theorem x_glo {x : Str} : evalE C G (.glo x) env h = Res.of h ((G x).map .dat) := by conv => lhs; unfold evalE
theorem x_bin {op : Bop} {a b : E} : evalE C G (.bin op a b) env h = (evalE C G a env h).bind fun x h1 => (evalE C G b env h1).bind fun y h2 => Res.of h2 (binF h2 op x y) := by conv => lhs; unfold evalE
theorem x_neg {a : E} : evalE C G (.neg a) env h = (evalE C G a env h).bind fun x h1 => Res.of h1 (negF x) := by conv => lhs; unfold evalE
theorem x_cmp {op : Cop} {a b : E} : evalE C G (.cmp op a b) env h = (evalE C G a env h).bind fun x h1 => (evalE C G b env h1).bind fun y h2 => ofR h2 (cmpF h2 op x y) fun b => .dat (.bl b) := by
  conv => lhs; unfold evalE
  rfl
theorem x_chain {p q : Cop} {a b c : E} : evalE C G (.chain p q a b c) env h = (evalE C G a env h).bind fun x h1 => (evalE C G b env h1).bind fun y h2 => (ofR h2 (cmpF h2 p x y) fun b => .dat (.bl b)).bind fun z h3 => brR z ((evalE C G c env h3).bind fun z h3 => ofR h3 (cmpF h3 q y z) fun b => .dat (.bl b)) (.ok (.dat (.bl false)) h3) := by
  conv => lhs; unfold evalE
  congr 1; funext x h1; congr 1; funext y h2
  cases cmpF h2 p x y with
  | none => rfl
  | some b => cases b <;> rfl
theorem x_and {a b : E} : evalE C G (.and2 a b) env h = (evalE C G a env h).bind fun x h1 => brR x (evalE C G b env h1) (.ok (.dat (.bl false)) h1) := by
  conv => lhs; unfold evalE
  rfl
theorem x_or {a b : E} : evalE C G (.or2 a b) env h = (evalE C G a env h).bind fun x h1 => brR x (.ok (.dat (.bl true)) h1) (evalE C G b env h1) := by
  conv => lhs; unfold evalE
  rfl
def notR (x : R) (h : Hh) : Res R := match x with
  | .dat (.bl k) => .ok (.dat (.bl (!k))) h
  | _ => .bad
theorem notR_bl {k : Bool} : notR (.dat (.bl k)) h = .ok (.dat (.bl (!k))) h := rfl
theorem x_not {a : E} : evalE C G (.not1 a) env h = (evalE C G a env h).bind fun x h1 => notR x h1 := by
  conv => lhs; unfold evalE
  rfl
theorem x_ite {c a b : E} : evalE C G (.ite c a b) env h = (evalE C G c env h).bind fun x h1 => brR x (evalE C G a env h1) (evalE C G b env h1) := by
  conv => lhs; unfold evalE
  rfl
theorem x_call {f : Str} {es : Es} : evalE C G (.call f es) env h = (evalEs C G es env h).bind fun ds h1 => C f ds h1 := by conv => lhs; unfold evalE
theorem x_blt {f : Blt} {es : Es} : evalE C G (.blt f es) env h = (evalEs C G es env h).bind fun ds h1 => Res.of h1 (bltF h1 f ds) := by conv => lhs; unfold evalE
theorem x_blt1 {f : Blt} {a : E} : evalE C G (.blt1 f a) env h = (evalE C G a env h).bind fun x h1 => Res.of h1 (bltR h1 f x) := by conv => lhs; unfold evalE
theorem x_isi {a : E} {t : Ty} : evalE C G (.isi a t) env h = (evalE C G a env h).bind fun x h1 => fzR x fun d => ofR h1 (isiF h1 t d) fun b => .dat (.bl b) := by
  conv => lhs; unfold evalE
  rfl
theorem x_mth {m : Mth} {o : E} {es : Es} : evalE C G (.mth m o es) env h = (evalE C G o env h).bind fun x h1 => strR x fun a => (evalEs C G es env h1).bind fun ds h2 => Res.of h2 (mthF m a ds) := by
  conv => lhs; unfold evalE
  rfl
theorem x_ix {a b : E} : evalE C G (.ix a b) env h = (evalE C G a env h).bind fun x h1 => (evalE C G b env h1).bind fun y h2 => ofR h2 (ixF h2 x y) .dat := by
  conv => lhs; unfold evalE
  rfl
theorem x_dget {a b : E} : evalE C G (.dget a b) env h = (evalE C G a env h).bind fun x h1 => (evalE C G b env h1).bind fun y h2 => ofR h2 (dgetF h2 x y) .dat := by
  conv => lhs; unfold evalE
  rfl
theorem x_sl {a : E} {lo hi : Oe} : evalE C G (.sl a lo hi) env h = (evalE C G a env h).bind fun x h1 => (evalO C G lo env h1).bind fun i h2 => (evalO C G hi env h2).bind fun j h3 => Res.of h3 (slF h3 i j x) := by conv => lhs; unfold evalE
theorem x_tup {es : Es} : evalE C G (.tup es) env h = (evalEs C G es env h).bind fun ds h1 => lenR ds (.ok (.dat (.tup ds)) h1) := by
  conv => lhs; unfold evalE
  rfl
theorem x_lst {es : Es} : evalE C G (.lst es) env h = (evalEs C G es env h).bind fun ds h1 => lenR ds (.ok (.new ds) h1) := by
  conv => lhs; unfold evalE
  rfl
def dctR (ks : List Key) (ds : List D) (h1 : Hh) : Res R := if ks.length ≤ 15 ∧ ks.Nodup then .ok (.dat (.ref h1.length)) (h1 ++ [.dct (ks.zip ds)]) else .bad
theorem dctR_ok {ks : List Key} {ds : List D} (z : ks.length ≤ 15 ∧ ks.Nodup) : dctR ks ds h = .ok (.dat (.ref h.length)) (h ++ [.dct (ks.zip ds)]) := if_pos z
theorem x_dct {ks : List Key} {es : Es} : evalE C G (.dct ks es) env h = (evalEs C G es env h).bind fun ds h1 => dctR ks ds h1 := by
  conv => lhs; unfold evalE
  rfl
theorem x_comp {own : List Nat} {t : Tg} {it : Iter} {c e : E} : evalE C G (.comp own t it c e) env h = (evalI C G it env h).bind fun ds h1 => compR C G own t c e env ds h1 := by
  conv => lhs; unfold evalE
  rfl
theorem x_promo {e : E} : evalE C G (.promo e) env h = (evalE C G e env h).bind fun x h1 => proR x h1 := by
  conv => lhs; unfold evalE
  rfl
theorem x_ono : evalO C G .no env h = .ok none h := by conv => lhs; unfold evalO
theorem x_opart {e : E} : evalO C G (.part e) env h = (evalE C G e env h).bind fun x h1 => intR x fun i => .ok (some i) h1 := by
  conv => lhs; unfold evalO
  rfl
theorem x_nil : evalEs C G .nil env h = .ok [] h := by conv => lhs; unfold evalEs
theorem x_cons {e : E} {es : Es} : evalEs C G (.cons e es) env h = (evalE C G e env h).bind fun x h1 => fzR x fun d => (evalEs C G es env h1).bind fun ds h2 => .ok (d :: ds) h2 := by
  conv => lhs; unfold evalEs
  rfl
theorem x_seq {e : E} : evalI C G (.seq e) env h = (evalE C G e env h).bind fun x h1 => Res.of h1 (itF x) := by conv => lhs; unfold evalI
theorem x_rng1 {a : E} : evalI C G (.rng1 a) env h = (evalE C G a env h).bind fun x h1 => rng1R x h1 := by
  conv => lhs; unfold evalI
  rfl
theorem x_rng2 {a b : E} : evalI C G (.rng2 a b) env h = (evalE C G a env h).bind fun x h1 => (evalE C G b env h1).bind fun y h2 => rngR x y h2 := by
  conv => lhs; unfold evalI
  rfl
theorem x_rng3 {a b c : E} : evalI C G (.rng3 a b c) env h = (evalE C G a env h).bind fun x h1 => (evalE C G b env h1).bind fun y h2 => (evalE C G c env h2).bind fun z h3 => rng3R x y z h3 := by
  conv => lhs; unfold evalI
theorem x_enum {e : E} : evalI C G (.enum e) env h = (evalE C G e env h).bind fun x h1 => ofR h1 (itL x) (enumL 0) := by
  conv => lhs; unfold evalI
  rfl
/-! statements -/
theorem y_asg {i : Nat} {e : E} : execS C G (.asg i e) env h = (evalE C G e env h).bind fun x h1 => fzR x fun d => .ok (.nx (env.set i (.val d))) h1 := by
  conv => lhs; unfold execS
  rfl
theorem y_own {i : Nat} {e : E} : execS C G (.own i e) env h = (evalE C G e env h).bind fun x h1 => newR x fun l => .ok (.nx (env.set i (.own l))) h1 := by
  conv => lhs; unfold execS
  rfl
def anyR (i : Nat) (env : Env') (h : Hh) : R → Res Fl
  | .new l => .ok (.nx (env.set i (.own l))) h
  | .dat d => .ok (.nx (env.set i (.val d))) h
  | .bor _ => .bad
theorem y_any {i : Nat} {e : E} : execS C G (.any i e) env h = (evalE C G e env h).bind fun x h1 => anyR i env h1 x := by
  conv => lhs; unfold execS
  refine congrArg (Res.bind _) ?_
  funext x h1
  cases x <;> rfl
theorem y_asgs {is : List Nat} {e : E} : execS C G (.asgs is e) env h = (evalE C G e env h).bind fun x h1 => tupR x fun ds => optR (setVs env is ds) fun env' => .ok (.nx env') h1 := by
  conv => lhs; unfold execS
  congr 1; funext x h1
  cases x with
  | dat d =>
    cases d with
    | tup ds =>
      show (match setVs env is ds with
        | some env' => Res.ok (Fl.nx env') h1
        | none => Res.bad) = optR (setVs env is ds) _
      cases setVs env is ds <;> rfl
    | _ => rfl
  | _ => rfl
theorem y_setL {o k e : E} : execS C G (.setL o k e) env h = (evalE C G e env h).bind fun v h1 => fzR v fun d => (evalE C G o env h1).bind fun x h2 => (evalE C G k env h2).bind fun y h3 => setLR x y d env h3 := by
  conv => lhs; unfold execS
  congr 1; funext v h1; unfold fzR; cases v.fz <;> rfl
theorem y_setD {o k e : E} : execS C G (.setD o k e) env h = (evalE C G e env h).bind fun v h1 => fzR v fun d => (evalE C G o env h1).bind fun x h2 => (evalE C G k env h2).bind fun y h3 => setDR x y d env h3 := by
  conv => lhs; unfold execS
  congr 1; funext v h1; unfold fzR; cases v.fz <;> rfl
theorem y_setOwn {i : Nat} {k e : E} : execS C G (.setOwn i k e) env h = (evalE C G e env h).bind fun v h1 => fzR v fun d => ownR env[i]? fun l => (evalE C G k env h1).bind fun y h2 => setOR l i y d env h2 := by
  conv => lhs; unfold execS
  congr 1; funext v h1; unfold fzR
  cases v.fz with
  | none => rfl
  | some d =>
    show _ = ownR env[i]? _
    cases env[i]? with
    | none => rfl
    | some s => cases s <;> rfl
theorem y_app {i : Nat} {e : E} : execS C G (.app i e) env h = ownR env[i]? fun l => (evalE C G e env h).bind fun v h1 => fzR v fun d => appR l i d env h1 := by
  conv => lhs; unfold execS
  cases env[i]? with
  | none => rfl
  | some s =>
    cases s with
    | own l =>
      show Res.bind _ _ = Res.bind _ _
      congr 1; funext v h1; unfold fzR; cases v.fz <;> rfl
    | _ => rfl
def extR (l : List D) (i : Nat) (v : R) (env : Env') (h1 : Hh) : Res Fl := match lv h1 v with
      | some m => if l.length + m.length ≤ sizeLine then .ok (.nx (env.set i (.own (l ++ m)))) h1 else .bad
      | none => .bad
theorem extR_ok {l m : List D} {i : Nat} {v : R} (e : lv h v = some m) (z : l.length + m.length ≤ sizeLine) : extR l i v env h = .ok (.nx (env.set i (.own (l ++ m)))) h := by simp only [extR, e, if_pos z]
theorem y_ext {i : Nat} {e : E} : execS C G (.ext i e) env h = ownR env[i]? fun l => (evalE C G e env h).bind fun v h1 => extR l i v env h1 := by
  conv => lhs; unfold execS
  cases env[i]? with
  | none => rfl
  | some s => cases s <;> rfl
theorem y_expr {e : E} : execS C G (.expr e) env h = (evalE C G e env h).bind fun _ h1 => .ok (.nx env) h1 := by conv => lhs; unfold execS
theorem y_ifs {c : E} {a b : Ss} : execS C G (.ifs c a b) env h = (evalE C G c env h).bind fun x h1 => brR x (execSs C G a env h1) (execSs C G b env h1) := by
  conv => lhs; unfold execS
  rfl
theorem y_for {t : Tg} {it : Iter} {b : Ss} : execS C G (.for' t it b) env h = (evalI C G it env h).bind fun ds h1 => forR C G t b ds env h1 := by
  conv => lhs; unfold execS
  rfl
theorem y_whl {c : E} {b : Ss} : execS C G (.whl c b) env h = whlR C G c b whlMost env h := by
  conv => lhs; unfold execS
  rfl
theorem y_ret {e : E} : execS C G (.ret e) env h = (evalE C G e env h).bind fun x h1 => retR x h1 := by
  conv => lhs; unfold execS
  rfl
theorem y_retV {i : Nat} : execS C G (.retV i) env h = ownR env[i]? fun l => .ok (.rt (.new l)) h := by
  conv => lhs; unfold execS
  rfl
theorem y_retn : execS C G .retn env h = .ok (.rt (.dat .non)) h := by conv => lhs; unfold execS
theorem y_pass : execS C G .pass env h = .ok (.nx env) h := by conv => lhs; unfold execS
theorem y_brk : execS C G .brk env h = .ok (.bk env) h := by conv => lhs; unfold execS
theorem y_cnt : execS C G .cnt env h = .ok (.ct env) h := by conv => lhs; unfold execS
theorem y_frz {i : Nat} : execS C G (.frz i) env h = ownR env[i]? fun l => .ok (.nx (env.set i (.val (.lst l)))) h := by
  conv => lhs; unfold execS
  rfl
theorem z_nil : execSs C G .nil env h = .ok (.nx env) h := by conv => lhs; unfold execSs
theorem z_cons {s : S} {ss : Ss} : execSs C G (.cons s ss) env h = seqR (execS C G s env h) fun env' h' => execSs C G ss env' h' := by
  conv => lhs; unfold execSs
  cases execS C G s env h with
  | ok fl h' => cases fl <;> rfl
  | _ => rfl
end
/-! a call -/
def rtR (r : Res Fl) : Res R := match r with
    | .ok (.rt r) h' => .ok r h'
    | .ok (.nx _) h' => .ok (.dat .non) h'
    | .ex x h' => .ex x h'
    | _ => .bad
theorem rtR_rt {r : R} {h : Hh} : rtR (.ok (.rt r) h) = .ok r h := rfl
theorem rtR_nx {e : Env'} {h : Hh} : rtR (.ok (.nx e) h) = .ok (.dat .non) h := rfl
def endQ (Q : R → Hh → Prop) : Fl → Hh → Prop := fun fl h => match fl with
  | .rt r => Q r h
  | .nx _ => Q (.dat .non) h
  | _ => False
theorem ev_rt {r : Res Fl} {Q : R → Hh → Prop} : ev (rtR r) Q = ev r (endQ Q) := by
  cases r with
  | ok fl h => cases fl <;> rfl
  | _ => rfl
theorem endQ_rt {Q : R → Hh → Prop} {r : R} {h : Hh} : endQ Q (.rt r) h = Q r h := rfl
theorem endQ_nx {Q : R → Hh → Prop} {r : Env'} {h : Hh} : endQ Q (.nx r) h = Q (.dat .non) h := rfl
theorem run_s {T : Tab} {G : Str → Option D} {n : Nat} {f : Str} {d : Fn} (e : T f = some d) (ds : List D) (h : Hh) (hl : ds.length = d.pars) : run T G (n + 1) f ds h = rtR (execSs (run T G n) G d.body (d.env ds) h) := by
  conv => lhs; unfold run
  rw [e]
  show runBody _ G d ds h = _
  unfold runBody
  rw [if_pos hl]
  rfl
/-! loops -/
section
variable {C : Calls'} {G : Str → Option D}
theorem ev_for {t : Tg} {b : Ss} {Q : Fl → Hh → Prop} (I : Nat → Env' → Hh → Prop) : ∀ {ds : List D} {env : Env'} {h : Hh}, I 0 env h →
    (∀ i d env h, ds[i]? = some d → I i env h → ∃ env1, t.bind env d = some env1 ∧ ev (execSs C G b env1 h) fun fl h2 => match fl with
      | .nx e => I (i + 1) e h2
      | .ct e => I (i + 1) e h2
      | .bk e => Q (.nx e) h2
      | .rt r => Q (.rt r) h2) → (∀ env h, I ds.length env h → Q (.nx env) h) → ev (forR C G t b ds env h) Q := by
  intro ds
  induction ds generalizing I with
  | nil =>
    intro env h i0 _ done
    exact done env h i0
  | cons d ds ih =>
    intro env h i0 step done
    obtain ⟨env1, e1, p⟩ := step 0 d env h rfl i0
    unfold forR forLoop
    rw [e1]
    show ev (match execSs C G b env1 h with
      | .ok (.nx env2) h2 => forR C G t b ds env2 h2
      | .ok (.ct env2) h2 => forR C G t b ds env2 h2
      | .ok (.bk env2) h2 => .ok (.nx env2) h2
      | .ok (.rt r) h2 => .ok (.rt r) h2
      | .ex x h2 => .ex x h2
      | .bad => .bad) Q
    cases q : execSs C G b env1 h with
    | bad => rw [q] at p; exact p
    | ex x h => rw [q] at p; exact p
    | ok fl h2 =>
      rw [q] at p
      have go : ∀ e, I 1 e h2 → ev (forR C G t b ds e h2) Q := fun e i1 => ih (fun i => I (i + 1)) i1 (fun i d' env' h' hd => step (i + 1) d' env' h' (by simpa using hd)) done
      cases fl with
      | nx e => exact go e p
      | ct e => exact go e p
      | bk e => exact p
      | rt r => exact p
theorem for_nil {t : Tg} {b : Ss} {env : Env'} {h : Hh} : forR C G t b [] env h = .ok (.nx env) h := rfl
/-- a comprehension: what stands after each -/
theorem ev_comp {own : List Nat} {t : Tg} {c e : E} {env : Env'} {Q : R → Hh → Prop} (I : Nat → List D → Hh → Prop) : ∀ {ds : List D} {h : Hh} {acc : List D}, I 0 acc h → acc.length + ds.length ≤ sizeLine →
    (∀ i d acc h, ds[i]? = some d → I i acc h → ∃ env1, t.bind (wipeE env own) d = some env1 ∧ ev (compG C G c e env1 h) fun x h2 => match x with
      | none => I (i + 1) acc h2
      | some y => I (i + 1) (acc ++ [y]) h2) → (∀ acc h, I ds.length acc h → Q (.new acc) h) → ev (compLoop (compF C G own t c e env) ds acc h) Q := by
  intro ds
  induction ds generalizing I with
  | nil =>
    intro h acc i0 _ _ done
    exact done acc h i0
  | cons d ds ih =>
    intro h acc i0 hl step done
    obtain ⟨env1, e1, p⟩ := step 0 d acc h rfl i0
    have ef : compF C G own t c e env d h = compG C G c e env1 h := by unfold compF; rw [e1]
    unfold compLoop
    rw [ef]
    simp only [List.length_cons] at hl
    cases q : compG C G c e env1 h with
    | bad => rw [q] at p; exact p.elim
    | ex x h => rw [q] at p; exact p.elim
    | ok o h2 =>
      rw [q] at p
      cases o with
      | none => exact ih (fun i => I (i + 1)) p (by omega) (fun i d' acc' h' hd => step (i + 1) d' acc' h' (by simpa using hd)) done
      | some y =>
        show ev (if acc.length < sizeLine then _ else _) Q
        rw [if_pos (by omega)]
        exact ih (fun i => I (i + 1)) p (by simp; omega) (fun i d' acc' h' hd => step (i + 1) d' acc' h' (by simpa using hd)) done
theorem x_compG {c e : E} {env : Env'} {h : Hh} : compG C G c e env h = (evalE C G c env h).bind fun b h3 => brR b ((evalE C G e env h3).bind fun x h4 => fzR x fun y => .ok (some y) h4) (.ok none h3) := by
  unfold compG
  rfl
/-- nothing else happens: a map -/
theorem comp_map {own : List Nat} {t : Tg} {c e : E} {env : Env'} {h : Hh} (g : D → D) : ∀ {ds acc : List D}, acc.length + ds.length ≤ sizeLine → (∀ d ∈ ds, compF C G own t c e env d h = .ok (some (g d)) h) → compLoop (compF C G own t c e env) ds acc h = .ok (.new (acc ++ ds.map g)) h
  | [], acc, _, _ => by simp [compLoop]
  | d :: ds, acc, hl, H => by
    unfold compLoop
    rw [H d List.mem_cons_self]
    simp only [List.length_cons] at hl
    show (if acc.length < sizeLine then compLoop (compF C G own t c e env) ds (acc ++ [g d]) h else .bad) = _
    rw [if_pos (by omega), comp_map g (by simp; omega) fun d' hd => H d' (List.mem_cons_of_mem _ hd)]
    simp
theorem comp_filter {own : List Nat} {t : Tg} {c e : E} {env : Env'} {h : Hh} (p : D → Bool) (g : D → D) : ∀ {ds acc : List D}, acc.length + ds.length ≤ sizeLine → (∀ d ∈ ds, compF C G own t c e env d h = .ok (if p d then some (g d) else none) h) →
    compLoop (compF C G own t c e env) ds acc h = .ok (.new (acc ++ (ds.filter p).map g)) h
  | [], acc, _, _ => by simp [compLoop]
  | d :: ds, acc, hl, H => by
    unfold compLoop
    rw [H d List.mem_cons_self]
    simp only [List.length_cons] at hl
    by_cases q : p d = true
    · rw [if_pos q]
      show (if acc.length < sizeLine then compLoop (compF C G own t c e env) ds (acc ++ [g d]) h else .bad) = _
      rw [if_pos (by omega), comp_filter p g (by simp; omega) fun d' hd => H d' (List.mem_cons_of_mem _ hd)]
      simp [List.filter_cons, q]
    · rw [if_neg q]
      show compLoop (compF C G own t c e env) ds acc h = _
      rw [comp_filter p g (by omega) fun d' hd => H d' (List.mem_cons_of_mem _ hd)]
      simp [List.filter_cons, q]
end
/-! ### step by step -/
section
variable {C : Calls'} {G : Str → Option D} {env : Env'} {h : Hh} {Q : R → Hh → Prop} {QL : List D → Hh → Prop} {QO : Option Int → Hh → Prop} {QF : Fl → Hh → Prop}
theorem w_var {i : Nat} {d : D} (e : env[i]? = some (.val d)) (p : Q (.dat d) h) : ev (evalE C G (.var i) env h) Q := by rw [x_var, e]; exact p
theorem w_varO {i : Nat} {d : List D} (e : env[i]? = some (.own d)) (p : Q (.bor d) h) : ev (evalE C G (.var i) env h) Q := by rw [x_var, e]; exact p
theorem w_con {d : D} (p : Q (.dat d) h) : ev (evalE C G (.con d) env h) Q := by rw [x_con]; exact p
theorem w_glo {x : Str} {d : D} (e : G x = some d) (p : Q (.dat d) h) : ev (evalE C G (.glo x) env h) Q := by rw [x_glo, e]; exact p
theorem w_bin {op : Bop} {a b : E} (p : ev (evalE C G a env h) fun x h1 => ev (evalE C G b env h1) fun y h2 => ev (Res.of h2 (binF h2 op x y)) Q) : ev (evalE C G (.bin op a b) env h) Q := by
  rw [x_bin]; simpa only [ev_bind] using p
theorem w_neg {a : E} (p : ev (evalE C G a env h) fun x h1 => ev (Res.of h1 (negF x)) Q) : ev (evalE C G (.neg a) env h) Q := by
  rw [x_neg]; simpa only [ev_bind] using p
theorem w_cmp {op : Cop} {a b : E} (p : ev (evalE C G a env h) fun x h1 => ev (evalE C G b env h1) fun y h2 => ev (ofR h2 (cmpF h2 op x y) fun b => .dat (.bl b)) Q) : ev (evalE C G (.cmp op a b) env h) Q := by
  rw [x_cmp]; simpa only [ev_bind] using p
theorem w_chain {o1 o2 : Cop} {a b c : E} (p : ev (evalE C G a env h) fun x h1 => ev (evalE C G b env h1) fun y h2 => ev (ofR h2 (cmpF h2 o1 x y) fun b => .dat (.bl b)) fun z h3 =>
    ev (brR z ((evalE C G c env h3).bind fun z h3 => ofR h3 (cmpF h3 o2 y z) fun b => .dat (.bl b)) (.ok (.dat (.bl false)) h3)) Q) : ev (evalE C G (.chain o1 o2 a b c) env h) Q := by
  rw [x_chain]; simpa only [ev_bind] using p
theorem w_and {a b : E} (p : ev (evalE C G a env h) fun x h1 => ev (brR x (evalE C G b env h1) (.ok (.dat (.bl false)) h1)) Q) : ev (evalE C G (.and2 a b) env h) Q := by
  rw [x_and]; simpa only [ev_bind] using p
theorem w_or {a b : E} (p : ev (evalE C G a env h) fun x h1 => ev (brR x (.ok (.dat (.bl true)) h1) (evalE C G b env h1)) Q) : ev (evalE C G (.or2 a b) env h) Q := by
  rw [x_or]; simpa only [ev_bind] using p
theorem w_not {a : E} (p : ev (evalE C G a env h) fun x h1 => ev (notR x h1) Q) : ev (evalE C G (.not1 a) env h) Q := by
  rw [x_not]; simpa only [ev_bind] using p
theorem w_ite {c a b : E} (p : ev (evalE C G c env h) fun x h1 => ev (brR x (evalE C G a env h1) (evalE C G b env h1)) Q) : ev (evalE C G (.ite c a b) env h) Q := by
  rw [x_ite]; simpa only [ev_bind] using p
theorem w_call {f : Str} {es : Es} (p : ev (evalEs C G es env h) fun ds h1 => ev (C f ds h1) Q) : ev (evalE C G (.call f es) env h) Q := by
  rw [x_call]; simpa only [ev_bind] using p
theorem w_blt {f : Blt} {es : Es} (p : ev (evalEs C G es env h) fun ds h1 => ev (Res.of h1 (bltF h1 f ds)) Q) : ev (evalE C G (.blt f es) env h) Q := by
  rw [x_blt]; simpa only [ev_bind] using p
theorem w_blt1 {f : Blt} {a : E} (p : ev (evalE C G a env h) fun x h1 => ev (Res.of h1 (bltR h1 f x)) Q) : ev (evalE C G (.blt1 f a) env h) Q := by
  rw [x_blt1]; simpa only [ev_bind] using p
theorem w_isi {a : E} {t : Ty} (p : ev (evalE C G a env h) fun x h1 => ev (fzR x fun d => ofR h1 (isiF h1 t d) fun b => .dat (.bl b)) Q) : ev (evalE C G (.isi a t) env h) Q := by
  rw [x_isi]; simpa only [ev_bind] using p
theorem w_mth {m : Mth} {o : E} {es : Es} (p : ev (evalE C G o env h) fun x h1 => ev (strR x fun a => (evalEs C G es env h1).bind fun ds h2 => Res.of h2 (mthF m a ds)) Q) : ev (evalE C G (.mth m o es) env h) Q := by
  rw [x_mth]; simpa only [ev_bind] using p
theorem w_ix {a b : E} (p : ev (evalE C G a env h) fun x h1 => ev (evalE C G b env h1) fun y h2 => ev (ofR h2 (ixF h2 x y) .dat) Q) : ev (evalE C G (.ix a b) env h) Q := by
  rw [x_ix]; simpa only [ev_bind] using p
theorem w_dget {a b : E} (p : ev (evalE C G a env h) fun x h1 => ev (evalE C G b env h1) fun y h2 => ev (ofR h2 (dgetF h2 x y) .dat) Q) : ev (evalE C G (.dget a b) env h) Q := by
  rw [x_dget]; simpa only [ev_bind] using p
theorem w_sl {a : E} {lo hi : Oe} (p : ev (evalE C G a env h) fun x h1 => ev (evalO C G lo env h1) fun i h2 => ev (evalO C G hi env h2) fun j h3 => ev (Res.of h3 (slF h3 i j x)) Q) : ev (evalE C G (.sl a lo hi) env h) Q := by
  rw [x_sl]; simpa only [ev_bind] using p
theorem w_tup {es : Es} (p : ev (evalEs C G es env h) fun ds h1 => ev (lenR ds (.ok (.dat (.tup ds)) h1)) Q) : ev (evalE C G (.tup es) env h) Q := by
  rw [x_tup]; simpa only [ev_bind] using p
theorem w_lst {es : Es} (p : ev (evalEs C G es env h) fun ds h1 => ev (lenR ds (.ok (.new ds) h1)) Q) : ev (evalE C G (.lst es) env h) Q := by
  rw [x_lst]; simpa only [ev_bind] using p
theorem w_dct {ks : List Key} {es : Es} (p : ev (evalEs C G es env h) fun ds h1 => ev (dctR ks ds h1) Q) : ev (evalE C G (.dct ks es) env h) Q := by
  rw [x_dct]; simpa only [ev_bind] using p
theorem w_comp {own : List Nat} {t : Tg} {it : Iter} {c e : E} (p : ev (evalI C G it env h) fun ds h1 => ev (compR C G own t c e env ds h1) Q) : ev (evalE C G (.comp own t it c e) env h) Q := by
  rw [x_comp]; simpa only [ev_bind] using p
theorem w_promo {e : E} (p : ev (evalE C G e env h) fun x h1 => ev (proR x h1) Q) : ev (evalE C G (.promo e) env h) Q := by
  rw [x_promo]; simpa only [ev_bind] using p
theorem w_ono (p : QO none h) : ev (evalO C G .no env h) QO := by rw [x_ono]; exact p
theorem w_opart {e : E} (p : ev (evalE C G e env h) fun x h1 => ev (intR x fun i => .ok (some i) h1) QO) : ev (evalO C G (.part e) env h) QO := by
  rw [x_opart]; simpa only [ev_bind] using p
theorem w_nil (p : QL [] h) : ev (evalEs C G .nil env h) QL := by rw [x_nil]; exact p
theorem w_cons {e : E} {es : Es} (p : ev (evalE C G e env h) fun x h1 => ev (fzR x fun d => (evalEs C G es env h1).bind fun ds h2 => .ok (d :: ds) h2) QL) : ev (evalEs C G (.cons e es) env h) QL := by
  rw [x_cons]; simpa only [ev_bind] using p
theorem w_seq {e : E} (p : ev (evalE C G e env h) fun x h1 => ev (Res.of h1 (itF x)) QL) : ev (evalI C G (.seq e) env h) QL := by
  rw [x_seq]; simpa only [ev_bind] using p
theorem w_rng1 {a : E} (p : ev (evalE C G a env h) fun x h1 => ev (rng1R x h1) QL) : ev (evalI C G (.rng1 a) env h) QL := by
  rw [x_rng1]; simpa only [ev_bind] using p
theorem w_rng2 {a b : E} (p : ev (evalE C G a env h) fun x h1 => ev (evalE C G b env h1) fun y h2 => ev (rngR x y h2) QL) : ev (evalI C G (.rng2 a b) env h) QL := by
  rw [x_rng2]; simpa only [ev_bind] using p
theorem w_rng3 {a b c : E} (p : ev (evalE C G a env h) fun x h1 => ev (evalE C G b env h1) fun y h2 => ev (evalE C G c env h2) fun z h3 => ev (rng3R x y z h3) QL) : ev (evalI C G (.rng3 a b c) env h) QL := by
  rw [x_rng3]; simpa only [ev_bind] using p
theorem w_enum {e : E} (p : ev (evalE C G e env h) fun x h1 => ev (ofR h1 (itL x) (enumL 0)) QL) : ev (evalI C G (.enum e) env h) QL := by
  rw [x_enum]; simpa only [ev_bind] using p
/-! helpers, known -/
theorem w_ok {α : Type} {a : α} {QA : α → Hh → Prop} (p : QA a h) : ev (.ok a h) QA := p
theorem w_bind {α β : Type} {r : Res α} {f : α → Hh → Res β} {QB : β → Hh → Prop} (p : ev r fun a h => ev (f a h) QB) : ev (r.bind f) QB := by rw [ev_bind]; exact p
theorem w_fzD {α : Type} {d : D} {k : D → Res α} {QA : α → Hh → Prop} (p : ev (k d) QA) : ev (fzR (.dat d) k) QA := p
theorem w_fzN {α : Type} {d : List D} {k : D → Res α} {QA : α → Hh → Prop} (p : ev (k (.lst d)) QA) : ev (fzR (.new d) k) QA := p
theorem w_brt {α : Type} {a b : Res α} {QA : α → Hh → Prop} (p : ev a QA) : ev (brR (.dat (.bl true)) a b) QA := p
theorem w_brf {α : Type} {a b : Res α} {QA : α → Hh → Prop} (p : ev b QA) : ev (brR (.dat (.bl false)) a b) QA := p
theorem w_notR {k : Bool} (p : Q (.dat (.bl (!k))) h) : ev (notR (.dat (.bl k)) h) Q := p
theorem w_strR {α : Type} {a : Str} {k : Str → Res α} {QA : α → Hh → Prop} (p : ev (k a) QA) : ev (strR (.dat (.str a)) k) QA := p
theorem w_intR {α : Type} {a : Int} {k : Int → Res α} {QA : α → Hh → Prop} (p : ev (k a) QA) : ev (intR (.dat (.int a)) k) QA := p
theorem w_tupR {α : Type} {a : List D} {k : List D → Res α} {QA : α → Hh → Prop} (p : ev (k a) QA) : ev (tupR (.dat (.tup a)) k) QA := p
theorem w_newR {α : Type} {a : List D} {k : List D → Res α} {QA : α → Hh → Prop} (p : ev (k a) QA) : ev (newR (.new a) k) QA := p
theorem w_optR {α β : Type} {o : Option α} {a : α} {k : α → Res β} {QA : β → Hh → Prop} (e : o = some a) (p : ev (k a) QA) : ev (optR o k) QA := by rw [e]; exact p
theorem w_lenR {ds : List D} {a : Res R} (e : ds.length ≤ sizeLine) (p : ev a Q) : ev (lenR ds a) Q := by rw [lenR_ok e]; exact p
theorem w_dctR {ks : List Key} {ds : List D} (e : ks.length ≤ 15 ∧ ks.Nodup) (p : Q (.dat (.ref h.length)) (h ++ [.dct (ks.zip ds)])) : ev (dctR ks ds h) Q := by rw [dctR_ok e]; exact p
theorem w_proN {l : List D} (p : Q (.dat (.ref h.length)) (h ++ [.lst l])) : ev (proR (.new l) h) Q := p
theorem w_proD {d : D} (p : Q (.dat d) h) : ev (proR (.dat d) h) Q := p
theorem rng_ok1 {j : Int} (h1 : -4611686018427387904 ≤ j) (h2 : j < 4611686018427387904) : rngOk j = true := by unfold rngOk; simp; omega
theorem rng_ok2 {i j : Int} (h1 : -4611686018427387904 ≤ i) (h2 : i < 4611686018427387904) (h3 : -4611686018427387904 ≤ j) (h4 : j < 4611686018427387904) : (rngOk i && rngOk j) = true := by rw [rng_ok1 h1 h2, rng_ok1 h3 h4]; rfl
theorem w_rng1R {j : Int} (e : rngOk j = true) (p : QL (rngL 0 j.toNat) h) : ev (rng1R (.dat (.int j)) h) QL := by rw [rng1R_ok e]; exact p
theorem w_rngR {i j : Int} (e : (rngOk i && rngOk j) = true) (p : QL (rngL i (j - i).toNat) h) : ev (rngR (.dat (.int i)) (.dat (.int j)) h) QL := by rw [rngR_ok e]; exact p
theorem w_rngD {i j : Int} (e : (rngOk i && rngOk j) = true) (p : QL (rng3L i (-1) (i - j).toNat) h) : ev (rng3R (.dat (.int i)) (.dat (.int j)) (.dat (.int (-1))) h) QL := by
  unfold rng3R
  simp only [Bool.and_eq_true] at e
  have h1 := rngOk_ e.1
  have h2 := rngOk_ e.2
  have hr := RgC.neg h1.1 h1.2 h2.1 h2.2
  show ev (if (-1 : Int) ≠ 0 ∧ (-1 : Int).natAbs < 1073741824 ∧ Builtin.Range.small i j (-1) = true ∧ 0 ≤ Builtin.Range.rangeSize i j (-1) then Res.ok (rng3L i (-1) (Builtin.Range.rangeSize i j (-1)).toNat) h else Res.bad) QL
  rw [if_pos ⟨hr.1, hr.2.1, hr.2.2.1, by rw [hr.2.2.2]; omega⟩, hr.2.2.2]
  exact p
theorem w_of {α : Type} {o : Option α} {a : α} {QA : α → Hh → Prop} (e : o = some a) (p : QA a h) : ev (Res.of h o) QA := by rw [e]; exact p
theorem w_ofR {α β : Type} {o : Option α} {a : α} {k : α → β} {QA : β → Hh → Prop} (e : o = some a) (p : QA (k a) h) : ev (ofR h o k) QA := by rw [e]; exact p
/-! operations on numbers -/
theorem w_addI {i j : Int} (p : Q (.dat (.int (i + j))) h) : ev (Res.of h (binF h .add (.dat (.int i)) (.dat (.int j)))) Q := p
theorem w_subI {i j : Int} (p : Q (.dat (.int (i - j))) h) : ev (Res.of h (binF h .sub (.dat (.int i)) (.dat (.int j)))) Q := p
theorem w_mulI {i j : Int} (e : (near i || near j) = true) (p : Q (.dat (.int (i * j))) h) : ev (Res.of h (binF h .mul (.dat (.int i)) (.dat (.int j)))) Q := by
  show ev (Res.of h ((mulI i j).map .dat)) Q
  unfold mulI; rw [if_pos e]; exact p
theorem w_fdivI {i j : Int} (e : 0 < j ∧ j < 1073741824) (p : Q (.dat (.int (i / j))) h) : ev (Res.of h (binF h .fdiv (.dat (.int i)) (.dat (.int j)))) Q := by
  show ev (Res.of h ((fdivI i j).map .dat)) Q
  unfold fdivI; rw [if_pos (by omega), Int.fdiv_eq_ediv_of_nonneg _ (by omega)]; exact p
theorem w_modI {i j : Int} (e : 0 < j) (p : Q (.dat (.int (i % j))) h) : ev (Res.of h (binF h .mod (.dat (.int i)) (.dat (.int j)))) Q := by
  show ev (Res.of h ((modI i j).map .dat)) Q
  unfold modI; rw [if_pos (by omega), Int.fmod_eq_emod_of_nonneg _ (by omega)]; exact p
theorem w_powI {i j : Int} (e : 0 ≤ j ∧ j ≤ 1000000 ∧ i.natAbs < 2 ^ 64) (p : Q (.dat (.int (i ^ j.toNat))) h) : ev (Res.of h (binF h .pow (.dat (.int i)) (.dat (.int j)))) Q := by
  show ev (Res.of h ((powI i j).map .dat)) Q
  unfold powI; rw [if_pos e]; exact p
theorem w_negI {i : Int} (p : Q (.dat (.int (-i))) h) : ev (Res.of h (negF (.dat (.int i)))) Q := p
theorem w_ltI {i j : Int} (p : Q (.dat (.bl (decide (i < j)))) h) : ev (ofR h (cmpF h .lt (.dat (.int i)) (.dat (.int j))) fun b => R.dat (.bl b)) Q := p
theorem w_leI {i j : Int} (p : Q (.dat (.bl (decide (i ≤ j)))) h) : ev (ofR h (cmpF h .le (.dat (.int i)) (.dat (.int j))) fun b => R.dat (.bl b)) Q := p
theorem w_gtI {i j : Int} (p : Q (.dat (.bl (decide (j < i)))) h) : ev (ofR h (cmpF h .gt (.dat (.int i)) (.dat (.int j))) fun b => R.dat (.bl b)) Q := p
theorem w_geI {i j : Int} (p : Q (.dat (.bl (decide (j ≤ i)))) h) : ev (ofR h (cmpF h .ge (.dat (.int i)) (.dat (.int j))) fun b => R.dat (.bl b)) Q := p
theorem w_eqI {i j : Int} (p : Q (.dat (.bl (decide (i = j)))) h) : ev (ofR h (cmpF h .eq (.dat (.int i)) (.dat (.int j))) fun b => R.dat (.bl b)) Q := by
  have e : cmpF h .eq (.dat (.int i)) (.dat (.int j)) = some (decide (i = j)) := by
    show (if SeqAt.shaped (.int i) && SeqAt.shaped (.int j) then some (PyData.eqv (.int i) (.int j)) else none) = _
    have : PyData.eqv (.int i) (.int j) = decide (i = j) := by simp [PyData.eqv]; try rfl
    rw [this]; rfl
  exact w_ofR e p
/-! statements -/
theorem v_asg {i : Nat} {e : E} (p : ev (evalE C G e env h) fun x h1 => ev (fzR x fun d => .ok (.nx (env.set i (.val d))) h1) QF) : ev (execS C G (.asg i e) env h) QF := by
  rw [y_asg]; simpa only [ev_bind] using p
theorem v_own {i : Nat} {e : E} (p : ev (evalE C G e env h) fun x h1 => ev (newR x fun l => .ok (.nx (env.set i (.own l))) h1) QF) : ev (execS C G (.own i e) env h) QF := by
  rw [y_own]; simpa only [ev_bind] using p
theorem v_any {i : Nat} {e : E} (p : ev (evalE C G e env h) fun x h1 => ev (anyR i env h1 x) QF) : ev (execS C G (.any i e) env h) QF := by
  rw [y_any]; simpa only [ev_bind] using p
theorem v_anyN {i : Nat} {l : List D} (p : QF (.nx (env.set i (.own l))) h) : ev (anyR i env h (.new l)) QF := p
theorem v_anyD {i : Nat} {d : D} (p : QF (.nx (env.set i (.val d))) h) : ev (anyR i env h (.dat d)) QF := p
theorem v_asgs {is : List Nat} {e : E} (p : ev (evalE C G e env h) fun x h1 => ev (tupR x fun ds => optR (setVs env is ds) fun env' => .ok (.nx env') h1) QF) : ev (execS C G (.asgs is e) env h) QF := by
  rw [y_asgs]; simpa only [ev_bind] using p
theorem v_setL {o k e : E} (p : ev (evalE C G e env h) fun v h1 => ev (fzR v fun d => (evalE C G o env h1).bind fun x h2 => (evalE C G k env h2).bind fun y h3 => setLR x y d env h3) QF) : ev (execS C G (.setL o k e) env h) QF := by
  rw [y_setL]; simpa only [ev_bind] using p
theorem v_setD {o k e : E} (p : ev (evalE C G e env h) fun v h1 => ev (fzR v fun d => (evalE C G o env h1).bind fun x h2 => (evalE C G k env h2).bind fun y h3 => setDR x y d env h3) QF) : ev (execS C G (.setD o k e) env h) QF := by
  rw [y_setD]; simpa only [ev_bind] using p
theorem v_setOwn {i : Nat} {k e : E} (p : ev (evalE C G e env h) fun v h1 => ev (fzR v fun d => ownR env[i]? fun l => (evalE C G k env h1).bind fun y h2 => setOR l i y d env h2) QF) : ev (execS C G (.setOwn i k e) env h) QF := by
  rw [y_setOwn]; simpa only [ev_bind] using p
theorem v_app {i : Nat} {e : E} {l : List D} (q : env[i]? = some (.own l)) (p : ev (evalE C G e env h) fun v h1 => ev (fzR v fun d => appR l i d env h1) QF) : ev (execS C G (.app i e) env h) QF := by
  rw [y_app, q, ownR_own]; simpa only [ev_bind] using p
theorem v_ext {i : Nat} {e : E} {l : List D} (q : env[i]? = some (.own l)) (p : ev (evalE C G e env h) fun v h1 => ev (extR l i v env h1) QF) : ev (execS C G (.ext i e) env h) QF := by
  rw [y_ext, q, ownR_own]; simpa only [ev_bind] using p
theorem v_expr {e : E} (p : ev (evalE C G e env h) fun _ h1 => QF (.nx env) h1) : ev (execS C G (.expr e) env h) QF := by
  rw [y_expr, ev_bind]; exact p
theorem v_ifs {c : E} {a b : Ss} (p : ev (evalE C G c env h) fun x h1 => ev (brR x (execSs C G a env h1) (execSs C G b env h1)) QF) : ev (execS C G (.ifs c a b) env h) QF := by
  rw [y_ifs]; simpa only [ev_bind] using p
theorem v_for {t : Tg} {it : Iter} {b : Ss} (p : ev (evalI C G it env h) fun ds h1 => ev (forR C G t b ds env h1) QF) : ev (execS C G (.for' t it b) env h) QF := by
  rw [y_for]; simpa only [ev_bind] using p
theorem v_whl {c : E} {b : Ss} (p : ev (whlR C G c b whlMost env h) QF) : ev (execS C G (.whl c b) env h) QF := by
  rw [y_whl]; exact p
theorem v_ret {e : E} (p : ev (evalE C G e env h) fun x h1 => ev (retR x h1) QF) : ev (execS C G (.ret e) env h) QF := by
  rw [y_ret]; simpa only [ev_bind] using p
theorem v_retV {i : Nat} {l : List D} (q : env[i]? = some (.own l)) (p : QF (.rt (.new l)) h) : ev (execS C G (.retV i) env h) QF := by
  rw [y_retV, q]; exact p
theorem v_retn (p : QF (.rt (.dat .non)) h) : ev (execS C G .retn env h) QF := by rw [y_retn]; exact p
theorem v_pass (p : QF (.nx env) h) : ev (execS C G .pass env h) QF := by rw [y_pass]; exact p
theorem v_brk (p : QF (.bk env) h) : ev (execS C G .brk env h) QF := by rw [y_brk]; exact p
theorem v_cnt (p : QF (.ct env) h) : ev (execS C G .cnt env h) QF := by rw [y_cnt]; exact p
theorem v_frz {i : Nat} {l : List D} (q : env[i]? = some (.own l)) (p : QF (.nx (env.set i (.val (.lst l)))) h) : ev (execS C G (.frz i) env h) QF := by rw [y_frz, q]; exact p
theorem v_nil (p : QF (.nx env) h) : ev (execSs C G .nil env h) QF := by rw [z_nil]; exact p
theorem v_cons {s : S} {ss : Ss} (p : ev (execS C G s env h) (contF QF fun env' h' => execSs C G ss env' h')) : ev (execSs C G (.cons s ss) env h) QF := by
  rw [z_cons, ev_seq]; exact p
theorem v_contN {k : Env' → Hh → Res Fl} (p : ev (k env h) QF) : contF QF k (.nx env) h := p
theorem v_contR {k : Env' → Hh → Res Fl} {r : R} (p : QF (.rt r) h) : contF QF k (.rt r) h := p
theorem v_contB {k : Env' → Hh → Res Fl} (p : QF (.bk env) h) : contF QF k (.bk env) h := p
theorem v_contC {k : Env' → Hh → Res Fl} (p : QF (.ct env) h) : contF QF k (.ct env) h := p
theorem v_setLR {n : Nat} {i : Int} {l : List D} {j : Nat} {d : D} (e : h[n]? = some (.lst l)) (q : ixN l.length i = some j) (p : QF (.nx env) (h.set n (.lst (l.set j d)))) : ev (setLR (.dat (.ref n)) (.dat (.int i)) d env h) QF := by rw [setLR_ok e q]; exact p
theorem v_setDR {n : Nat} {kd : D} {l : List (Key × D)} {kk : Key} {d : D} (e : h[n]? = some (.dct l)) (q : keyOf kd = some kk) (z : l.length < sizeLine) (p : QF (.nx env) (h.set n (.dct (dPut l kk d)))) : ev (setDR (.dat (.ref n)) (.dat kd) d env h) QF := by rw [setDR_ok e q z]; exact p
theorem v_ownR {i : Nat} {l : List D} {k : List D → Res Fl} (q : env[i]? = some (.own l)) (p : ev (k l) QF) : ev (ownR env[i]? k) QF := by rw [q]; exact p
theorem v_setOR {l : List D} {i j : Nat} {z : Int} {d : D} (q : ixN l.length z = some j) (p : QF (.nx (env.set i (.own (l.set j d)))) h) : ev (setOR l i (.dat (.int z)) d env h) QF := by rw [setOR_ok q]; exact p
theorem v_appR {l : List D} {i : Nat} {d : D} (z : l.length < sizeLine) (p : QF (.nx (env.set i (.own (l ++ [d])))) h) : ev (appR l i d env h) QF := by rw [appR_ok z]; exact p
theorem v_extR {l m : List D} {i : Nat} {v : R} (e : lv h v = some m) (z : l.length + m.length ≤ sizeLine) (p : QF (.nx (env.set i (.own (l ++ m)))) h) : ev (extR l i v env h) QF := by rw [extR_ok e z]; exact p
theorem v_retD {d : D} (p : QF (.rt (.dat d)) h) : ev (retR (.dat d) h) QF := p
theorem v_retN {d : List D} (p : QF (.rt (.new d)) h) : ev (retR (.new d) h) QF := p
theorem v_endR {r : R} (p : Q r h) : endQ Q (.rt r) h := p
theorem v_endN (p : Q (.dat .non) h) : endQ Q (.nx env) h := p
theorem v_run {T : Tab} {G : Str → Option D} {n : Nat} {f : Str} {d : Fn} (e : T f = some d) {ds : List D} (hl : ds.length = d.pars) (p : ev (execSs (run T G n) G d.body (d.env ds) h) (endQ Q)) : ev (run T G (n + 1) f ds h) Q := by
  rw [run_s e ds h hl, ev_rt]; exact p
theorem w_compG {c e : E} {QC : Option D → Hh → Prop} (p : ev (evalE C G c env h) fun b h3 => ev (brR b ((evalE C G e env h3).bind fun x h4 => fzR x fun y => .ok (some y) h4) (.ok none h3)) QC) : ev (compG C G c e env h) QC := by
  rw [x_compG]; simpa only [ev_bind] using p
/-- an answer that is known -/
theorem ev_eq {α : Type} {r : Res α} {a : α} {h' : Hh} (p : ev r fun x g => x = a ∧ g = h') : r = .ok a h' := by
  cases r with
  | ok x g => obtain ⟨rfl, rfl⟩ := p; rfl
  | _ => exact p.elim
theorem ev_of {α : Type} {r : Res α} {a : α} {h' : Hh} {QA : α → Hh → Prop} (e : r = .ok a h') (p : QA a h') : ev r QA := by rw [e]; exact p
end
end Mi
/-! Mi12: the laws' drawing: mixed, folded, draw, begun. -/
namespace Mi
open PySem PySem.Spec PyProof.Rows L2

theorem near_iff {i : Int} : near i = true ↔ -(2 ^ 64) < i ∧ i < 2 ^ 64 := by unfold near; simp
theorem near_r {i j : Int} (h : near j = true) : (near i || near j) = true := by rw [h, Bool.or_true]
theorem near_l {i j : Int} (h : near i = true) : (near i || near j) = true := by rw [h, Bool.true_or]
theorem near_ro {i j : Int} (h1 : -(2 ^ 64) < j) (h2 : j < 2 ^ 64) : (near i || near j) = true := near_r (near_iff.mpr ⟨h1, h2⟩)
theorem near_lo {i j : Int} (h1 : -(2 ^ 64) < i) (h2 : i < 2 ^ 64) : (near i || near j) = true := near_l (near_iff.mpr ⟨h1, h2⟩)
theorem w_dgetK {h : Hh} {n : Nat} {k : Str} {l : List (Key × D)} {d : D} {Q : R → Hh → Prop} (e : h[n]? = some (.dct l)) (q : dLook l (.inr k) = some d) (p : Q (.dat d) h) : ev (ofR h (dgetF h (.dat (.ref n)) (.dat (.str k))) .dat) Q := by
  refine w_ofR ?_ p
  show (match dctOf h (.dat (.ref n)), (R.dat (.str k)) with
    | some l, .dat k => (keyOf k).bind fun j => dLook l j
    | _, _ => none) = _
  have : dctOf h (.dat (.ref n)) = some l := by simp only [dctOf, e]
  rw [this]
  exact q
local macro_rules | `(tactic| walk_at "mi") => `(tactic| first
  | with_reducible refine w_con ?_ | ((with_reducible refine' w_var ?e ?_); case e => rfl)
  | with_reducible refine w_bin ?_ | with_reducible refine w_fzD ?_ | with_reducible refine w_bind ?_ | with_reducible refine w_ok ?_
  | with_reducible refine w_addI ?_ | with_reducible refine w_subI ?_
  | with_reducible refine w_cons ?_ | with_reducible refine w_nil ?_ | with_reducible refine w_call ?_
  | with_reducible refine v_cons ?_ | ((with_reducible refine v_contN ?_); try simp only [setV, List.set_cons_succ, List.set_cons_zero]) | with_reducible refine v_contR ?_ | with_reducible refine v_asg ?_ | with_reducible refine v_ret ?_ | with_reducible refine v_retD ?_ | with_reducible refine v_endR ?_
  | with_reducible refine v_nil ?_ | with_reducible refine v_ifs ?_ | with_reducible refine w_brt ?_ | with_reducible refine w_brf ?_
  | with_reducible refine w_and ?_ | with_reducible refine w_or ?_ | with_reducible refine w_not ?_ | with_reducible refine w_notR ?_ | with_reducible refine w_ite ?_
  | with_reducible refine w_cmp ?_ | with_reducible refine w_chain ?_ | with_reducible refine w_ltI ?_ | with_reducible refine w_leI ?_ | with_reducible refine w_gtI ?_ | with_reducible refine w_geI ?_ | with_reducible refine w_eqI ?_
  | with_reducible refine w_isi ?_ | with_reducible refine w_blt ?_ | with_reducible refine w_ix ?_ | with_reducible refine w_dget ?_
  | ((with_reducible refine' w_modI ?e ?_); case e => (first | decide | omega))
  | ((with_reducible refine' w_fdivI ?e ?_); case e => (first | decide | omega))
  | ((with_reducible refine' w_mulI ?e ?_); case e => (first | exact near_r (by decide) | exact near_l (by decide) | exact near_ro (by omega) (by omega) | exact near_lo (by omega) (by omega)))
  | ((with_reducible refine' w_powI ?e ?_); case e => decide)
  | with_reducible refine w_neg ?_ | with_reducible refine w_negI ?_
  | with_reducible refine w_tup ?_ | with_reducible refine w_lst ?_ | ((with_reducible refine' w_lenR ?e ?_); case e => (first | decide | (simp only [List.length_cons, List.length_nil, Nat.zero_add, Nat.reduceAdd]; decide)))
  | with_reducible refine w_fzN ?_ | ((with_reducible refine' w_glo ?e ?_); case e => (first | assumption | rfl))
  | with_reducible refine w_sl ?_ | with_reducible refine w_ono ?_ | with_reducible refine w_opart ?_ | with_reducible refine w_intR ?_ | with_reducible refine w_strR ?_ | with_reducible refine w_tupR ?_ | with_reducible refine w_newR ?_ | ((with_reducible refine' w_optR ?e ?_); case e => rfl)
  | with_reducible refine w_mth ?_ | with_reducible refine w_comp ?_ | with_reducible refine w_seq ?_ | with_reducible refine w_rng1 ?_ | with_reducible refine w_rng2 ?_ | with_reducible refine w_rng3 ?_ | with_reducible refine w_enum ?_ | ((with_reducible refine' w_rng1R ?e ?_); case e => exact rng_ok1 (by omega) (by omega)) | ((with_reducible refine' w_rngR ?e ?_); case e => exact rng_ok2 (by omega) (by omega) (by omega) (by omega)) | ((with_reducible refine' w_rngD ?e ?_); case e => exact rng_ok2 (by omega) (by omega) (by omega) (by omega))
  | with_reducible refine w_promo ?_ | with_reducible refine w_proN ?_ | with_reducible refine w_proD ?_ | with_reducible refine w_dct ?_ | ((with_reducible refine' w_dctR ?e ?_); case e => decide)
  | with_reducible refine v_own ?_ | with_reducible refine v_any ?_ | with_reducible refine v_anyN ?_ | with_reducible refine v_anyD ?_ | with_reducible refine w_blt1 ?_ | with_reducible refine v_asgs ?_ | with_reducible refine v_setL ?_ | with_reducible refine v_setD ?_ | with_reducible refine v_setOwn ?_ | ((with_reducible refine' v_ownR ?e ?_); case e => rfl)
  | ((with_reducible refine' v_app ?e ?_); case e => rfl) | ((with_reducible refine' v_ext ?e ?_); case e => rfl) | with_reducible refine v_expr ?_ | with_reducible refine v_for ?_ | with_reducible refine v_whl ?_
  | ((with_reducible refine' v_retV ?e ?_); case e => rfl) | with_reducible refine v_retn ?_ | with_reducible refine v_pass ?_ | with_reducible refine v_brk ?_ | with_reducible refine v_cnt ?_ | ((with_reducible refine' v_frz ?e ?_); case e => rfl)
  | with_reducible refine v_contB ?_ | with_reducible refine v_contC ?_ | with_reducible refine v_retN ?_ | with_reducible refine v_endN ?_ | with_reducible refine w_compG ?_
  | ((with_reducible refine' w_varO ?e ?_); case e => rfl)
  | ((with_reducible refine' w_dgetK ?e ?q ?_); (case e => first | assumption | rfl); (case q => rfl); (try dsimp only)))

def b_mixed : Ss := (.cons (.asg 2 (.bin .add (.bin .add (.bin .mod (.bin .mul (.bin .mul (.var 0) (.bin .add (.con (.int 1)) (.bin .mul (.con (.int 2)) (.var 1)))) (.con (.int 48271))) (.con (.int 2147483647))) (.bin .mul (.bin .mul (.con (.int 7919)) (.var 1)) (.var 1))) (.bin .mul (.con (.int 104729)) (.var 1)))) (.cons (.ret (.bin .fdiv (.bin .mod (.bin .mul (.var 2) (.con (.int 69621))) (.con (.int 2147483629))) (.con (.int 7)))) .nil))
def f_mixed : Fn := ⟨2, 3, b_mixed⟩
section
variable {T : Tab} {G : Str → Option D} {n : Nat} {h : Hh}
theorem mixed_ok (hT : T "_law_mixed" = some f_mixed) {c k : Int} (h1 : -(2 ^ 62) < k) (h2 : k < 2 ^ 62) : ev (run T G (n + 1) "_law_mixed" [.int c, .int k] h) fun r h' => h' = h ∧ ∃ x : Int, r = .dat (.int x) ∧ 0 ≤ x ∧ x < 2 ^ 31 := by
  refine v_run hT rfl ?_
  unfold f_mixed b_mixed
  simp only [Fn.env, List.map_cons, List.map_nil, Nat.reduceSub, List.replicate_succ, List.replicate_zero, List.cons_append, List.nil_append]
  repeat walk_at "mi"
  refine ⟨rfl, _, rfl, ?_, ?_⟩
  · have := Int.emod_nonneg (((c * (1 + 2 * k) * 48271) % 2147483647 + 7919 * k * k + 104729 * k) * 69621) (show (2147483629 : Int) ≠ 0 by decide)
    omega
  · have := Int.emod_lt_of_pos (((c * (1 + 2 * k) * 48271) % 2147483647 + 7919 * k * k + 104729 * k) * 69621) (show (0 : Int) < 2147483629 by decide)
    omega
end
/-! ### lists of numbers -/
theorem pyAll_ints : ∀ ls : List Int, pyAll (ls.map .int) = some (ls.map .int)
  | [] => by simp [pyAll]
  | x :: xs => by simp [pyAll, D.py, pyAll_ints xs]
theorem shaped_ints (ls : List Int) : SeqAt.shaped (.list (ls.map .int)) = true := by
  have h1 : ∀ l : List Int, PyData.canLayAll0 (l.map .int) = true := by
    intro l
    induction l with
    | nil => rfl
    | cons x xs ih => simpa [PyData.canLayAll0, PyData.canLay0] using ih
  have h2 : ∀ l : List Int, PyData.depthAll (l.map .int) = 0 := by
    intro l
    induction l with
    | nil => rfl
    | cons x xs ih => simp [PyData.depthAll, PyData.depth, ih]
  unfold SeqAt.shaped
  simp [PyData.canLay0, PyData.depth, h1, h2]
theorem atI_in {α : Type} {l : List α} {i : Int} (h0 : 0 ≤ i) (h1 : i.toNat < l.length) : atI l i = some l[i.toNat] := by
  have : ixN l.length i = some i.toNat := by unfold ixN; rw [if_pos h0, if_pos (by omega)]
  unfold atI
  rw [this]
  exact List.getElem?_eq_getElem h1
theorem ixN_in {n : Nat} {i : Int} (h0 : 0 ≤ i) (h1 : i < n) : ixN n i = some i.toNat := by unfold ixN; rw [if_pos h0, if_pos h1]
theorem w_ixL {h : Hh} {n : Nat} {l : List D} {i : Int} {d : D} {Q : R → Hh → Prop} (e : h[n]? = some (.lst l)) (q : atI l i = some d) (p : Q (.dat d) h) : ev (ofR h (ixF h (.dat (.ref n)) (.dat (.int i))) .dat) Q := by
  refine w_ofR ?_ p
  show (sv h (.dat (.ref n))).bind (fun l => atI l i) = some d
  have : sv h (.dat (.ref n)) = some l := by simp only [sv, lv, e]
  rw [this]
  exact q
theorem w_lenL {h : Hh} {n : Nat} {l : List D} {Q : R → Hh → Prop} (e : h[n]? = some (.lst l)) (p : Q (.dat (.int l.length)) h) : ev (Res.of h (bltF h .len [.ref n])) Q := by
  refine w_of ?_ p
  show (sv h (.dat (.ref n))).map (fun l => R.dat (.int l.length)) = _
  have : sv h (.dat (.ref n)) = some l := by simp only [sv, lv, e]
  rw [this]
  rfl
/-- the drawing state: its dict at m, its cells at ci, what is left at li; drawn at most b times -/
def drO (ci li : Nat) (a : Int) : O := .dct [(.inr "cells", .ref ci), (.inr "left", .ref li), (.inr "at", .int a)]
structure Dr (h : Hh) (m ci li : Nat) (b : Int) : Prop where
  ex : ∃ (cs ls : List Int) (a : Int), h[m]? = some (drO ci li a) ∧ h[ci]? = some (.lst (cs.map .int)) ∧ cs.length = 64 ∧ (∀ c ∈ cs, 0 ≤ c ∧ c < 2 ^ 31) ∧ h[li]? = some (.lst (ls.map .int)) ∧ (∀ x ∈ ls, 0 ≤ x) ∧ 0 ≤ a ∧ a ≤ b
  cm : ci ≠ m
  lm : li ≠ m
  cl : ci ≠ li
/-- all else stays -/
def Kp (m li : Nat) (h h' : Hh) : Prop := h.length ≤ h'.length ∧ ∀ j, j < h.length → j ≠ m → j ≠ li → h'[j]? = h[j]?
theorem Kp.refl {m li : Nat} {h : Hh} : Kp m li h h := ⟨Nat.le_refl _, fun _ _ _ _ => rfl⟩
theorem Kp.trans {m li : Nat} {h h1 h2 : Hh} (a : Kp m li h h1) (b : Kp m li h1 h2) : Kp m li h h2 := ⟨Nat.le_trans a.1 b.1, fun j hj n1 n2 => by rw [b.2 j (Nat.lt_of_lt_of_le hj a.1) n1 n2, a.2 j hj n1 n2]⟩
theorem Kp.set1 {m li : Nat} {h : Hh} {o : O} : Kp m li h (h.set m o) := ⟨by simp, fun j _ n1 _ => List.getElem?_set_ne (Ne.symm n1)⟩
theorem Kp.set2 {m li : Nat} {h : Hh} {o : O} : Kp m li h (h.set li o) := ⟨by simp, fun j _ _ n2 => List.getElem?_set_ne (Ne.symm n2)⟩
theorem Dr.mono {h : Hh} {m ci li : Nat} {b b' : Int} (d : Dr h m ci li b) (hb : b ≤ b') : Dr h m ci li b' := by
  obtain ⟨⟨cs, ls, a, q1, q2, q3, q4, q5, q6, q7, q8⟩, z1, z2, z3⟩ := d
  exact ⟨⟨cs, ls, a, q1, q2, q3, q4, q5, q6, q7, by omega⟩, z1, z2, z3⟩
theorem get_set_self {h : Hh} {m : Nat} {o o' : O} (e : h[m]? = some o) : (h.set m o')[m]? = some o' := List.getElem?_set_self (List.getElem?_eq_some_iff.mp e).1
theorem put_at {ci li : Nat} {a : Int} {d : D} : dPut [(.inr "cells", .ref ci), (.inr "left", .ref li), (.inr "at", .int a)] (.inr "at") d = [(.inr "cells", .ref ci), (.inr "left", .ref li), (.inr "at", d)] := by rfl
theorem ne_left {h : Hh} {li : Nat} {ls : List Int} {Q : R → Hh → Prop} (e : h[li]? = some (.lst (ls.map .int))) (p : Q (.dat (.bl (decide (ls ≠ [])))) h) : ev (ofR h (cmpF h .ne (.dat (.ref li)) (.new [])) fun b => R.dat (.bl b)) Q := by
  have q : eqF h (.dat (.ref li)) (.new []) = some (decide (ls = [])) := by
    unfold eqF
    have e1 : (R.dat (.ref li)).pyH h = some (.list (ls.map .int)) := by simp only [R.pyH, e, pyAll_ints]; rfl
    have e2 : (R.new []).pyH h = some (.list []) := rfl
    show (match (R.dat (.ref li)).pyH h, (R.new []).pyH h with
      | some a, some b => if SeqAt.shaped a && SeqAt.shaped b then some (PyData.eqv a b) else none
      | _, _ => none) = _
    rw [e1, e2]
    show (if (SeqAt.shaped _ && SeqAt.shaped (.list [])) = true then _ else _) = _
    rw [shaped_ints, if_pos (by rfl)]
    cases ls <;> rfl
  refine w_ofR (a := decide (ls ≠ [])) ?_ p
  show (eqF h _ _).map (!·) = _
  rw [q]
  simp
def b_draw : Ss := (.cons (.asg 2 (.dget (.var 0) (.con (.str "at")))) (.cons (.setD (.var 0) (.con (.str "at")) (.bin .add (.var 2) (.con (.int 1)))) (.cons (.ifs (.cmp .ne (.dget (.var 0) (.con (.str "left"))) (.lst .nil)) (.cons (.asg 3 (.bin .mod (.var 2) (.blt .len (.cons (.dget (.var 0) (.con (.str "left"))) .nil)))) (.cons (.asg 4 (.ix (.dget (.var 0) (.con (.str "left"))) (.var 3))) (.cons (.ifs (.cmp .gt (.var 4) (.con (.int 0))) (.cons (.setL (.dget (.var 0) (.con (.str "left"))) (.var 3) (.bin .fdiv (.var 4) (.var 1))) (.cons (.ret (.bin .mod (.var 4) (.var 1))) .nil)) .nil) .nil))) .nil) (.cons (.ret (.bin .mod (.call "_law_mixed" (.cons (.call "_law_mixed" (.cons (.bin .add (.ix (.dget (.var 0) (.con (.str "cells"))) (.bin .mod (.var 2) (.con (.int 64)))) (.bin .mul (.con (.int 31)) (.bin .fdiv (.var 2) (.con (.int 64))))) (.cons (.var 2) .nil))) (.cons (.bin .add (.var 2) (.con (.int 7))) .nil))) (.var 1))) .nil))))
def f_draw : Fn := ⟨2, 5, b_draw⟩
section
variable {T : Tab} {G : Str → Option D} {n : Nat} {h : Hh}
theorem draw_tail (hM : T "_law_mixed" = some f_mixed) {m ci li : Nat} {b a many : Int} {s3 s4 : Slot} (d : Dr h m ci li b) (hb : b < 2 ^ 60) (hm : 0 < many) (ha0 : 0 ≤ a) (ha1 : a ≤ b) :
    ev (execSs (run T G (n + 1)) G (.cons (.ret (.bin .mod (.call "_law_mixed" (.cons (.call "_law_mixed" (.cons (.bin .add (.ix (.dget (.var 0) (.con (.str "cells"))) (.bin .mod (.var 2) (.con (.int 64)))) (.bin .mul (.con (.int 31)) (.bin .fdiv (.var 2) (.con (.int 64))))) (.cons (.var 2) .nil))) (.cons (.bin .add (.var 2) (.con (.int 7))) .nil))) (.var 1))) .nil)
      [.val (.ref m), .val (.int many), .val (.int a), s3, s4] h) (endQ fun r h' => ∃ x : Int, r = .dat (.int x) ∧ 0 ≤ x ∧ x < many ∧ h' = h) := by
  obtain ⟨⟨cs, ls, a0, q1, q2, q3, q4, q5, q6, q7, q8⟩, z1, z2, z3⟩ := d
  repeat walk_at "mi"
  have hi : (a % 64).toNat < cs.length := by omega
  refine w_ixL q2 (atI_in (by omega) (by simpa using hi)) ?_
  rw [List.getElem_map]
  repeat walk_at "mi"
  refine ev_mono (mixed_ok hM (by omega) (by omega)) ?_
  rintro r h1 ⟨rfl, x, rfl, x0, x1⟩
  repeat walk_at "mi"
  refine ev_mono (mixed_ok hM (by omega) (by omega)) ?_
  rintro r h1 ⟨rfl, y, rfl, y0, y1⟩
  repeat walk_at "mi"
  exact ⟨_, rfl, Int.emod_nonneg _ (by omega), Int.emod_lt_of_pos _ hm, rfl⟩
theorem draw_ok (hM : T "_law_mixed" = some f_mixed) (hT : T "_law_draw" = some f_draw) {m ci li : Nat} {b many : Int} (d : Dr h m ci li b) (hb : b < 2 ^ 59) (hm : 0 < many) (hm2 : many < 2 ^ 30) :
    ev (run T G (n + 2) "_law_draw" [.ref m, .int many] h) fun r h' => ∃ x : Int, r = .dat (.int x) ∧ 0 ≤ x ∧ x < many ∧ Dr h' m ci li (b + 1) ∧ Kp m li h h' := by
  have d0 := d
  obtain ⟨⟨cs, ls, a, q1, q2, q3, q4, q5, q6, q7, q8⟩, z1, z2, z3⟩ := d
  refine v_run hT rfl ?_
  unfold f_draw b_draw
  simp only [Fn.env, List.map_cons, List.map_nil, Nat.reduceSub, List.replicate_succ, List.replicate_zero, List.cons_append, List.nil_append]
  unfold drO at q1
  repeat walk_at "mi"
  refine v_setDR q1 rfl (show 3 < sizeLine by decide) ?_
  rw [put_at]
  have g1 := get_set_self (o' := drO ci li (a + 1)) q1
  have g2 : (h.set m (drO ci li (a + 1)))[ci]? = _ := (List.getElem?_set_ne (Ne.symm z1)).trans q2
  have g3 : (h.set m (drO ci li (a + 1)))[li]? = _ := (List.getElem?_set_ne (Ne.symm z2)).trans q5
  have d1 : Dr (h.set m (drO ci li (a + 1))) m ci li (b + 1) := ⟨⟨cs, ls, a + 1, g1, g2, q3, q4, g3, q6, by omega, by omega⟩, z1, z2, z3⟩
  have k1 : Kp m li h (h.set m (drO ci li (a + 1))) := Kp.set1
  change contF _ _ (.nx _) (h.set m (drO ci li (a + 1)))
  generalize h.set m (drO ci li (a + 1)) = hh at *
  unfold drO at g1
  repeat walk_at "mi"
  refine ne_left g3 ?_
  have tail : ∀ {s3 s4 : Slot}, ev (execSs (run T G (n + 1)) G (.cons (.ret (.bin .mod (.call "_law_mixed" (.cons (.call "_law_mixed" (.cons (.bin .add (.ix (.dget (.var 0) (.con (.str "cells"))) (.bin .mod (.var 2) (.con (.int 64)))) (.bin .mul (.con (.int 31)) (.bin .fdiv (.var 2) (.con (.int 64))))) (.cons (.var 2) .nil))) (.cons (.bin .add (.var 2) (.con (.int 7))) .nil))) (.var 1))) .nil)
      [.val (.ref m), .val (.int many), .val (.int a), s3, s4] hh) (endQ fun r h' => ∃ x : Int, r = .dat (.int x) ∧ 0 ≤ x ∧ x < many ∧ Dr h' m ci li (b + 1) ∧ Kp m li h h') := by
    intro s3 s4
    refine ev_mono (draw_tail hM d1 (by omega) hm q7 (by omega)) ?_
    rintro fl h' z
    cases fl with
    | rt r =>
      obtain ⟨x, e1, e2, e3, rfl⟩ := z
      exact ⟨x, e1, e2, e3, d1, k1⟩
    | nx e => obtain ⟨x, e1, _⟩ := z; cases e1
    | bk e => exact z
    | ct e => exact z
  by_cases hl : ls = []
  · rw [show decide (ls ≠ []) = false by simpa using hl]
    iterate 3 walk_at "mi"
    exact tail
  · rw [show decide (ls ≠ []) = true by simpa using hl]
    repeat walk_at "mi"
    refine w_lenL g3 ?_
    have hp : 0 < ls.length := List.length_pos_iff.mpr hl
    rw [List.length_map]
    repeat walk_at "mi"
    have hi : (a % (ls.length : Int)).toNat < ls.length := by
      have := Int.emod_lt_of_pos a (show (0 : Int) < ls.length by omega)
      omega
    have hi0 : 0 ≤ a % (ls.length : Int) := Int.emod_nonneg _ (by omega)
    refine w_ixL g3 (atI_in hi0 (by simpa using hi)) ?_
    rw [List.getElem_map]
    have hx := q6 _ (List.getElem_mem hi)
    generalize ls[(a % (ls.length : Int)).toNat] = x at hx
    repeat walk_at "mi"
    refine ev_br (fun hx0 => ?_) (fun hx0 => ?_)
    · repeat walk_at "mi"
      refine v_setLR g3 (ixN_in hi0 (by simp; omega)) ?_
      repeat walk_at "mi"
      refine ⟨_, rfl, Int.emod_nonneg _ (by omega), Int.emod_lt_of_pos _ hm, ?_, k1.trans Kp.set2⟩
      refine ⟨⟨cs, ls.set (a % (ls.length : Int)).toNat (x / many), a + 1, ?_, ?_, q3, q4, ?_, ?_, by omega, by omega⟩, z1, z2, z3⟩
      · rw [List.getElem?_set_ne z2]; exact g1
      · rw [List.getElem?_set_ne (Ne.symm z3)]; exact g2
      · rw [get_set_self g3, List.map_set]
      · intro y hy
        rcases List.mem_or_eq_of_mem_set hy with hy | rfl
        · exact q6 y hy
        · exact Int.ediv_nonneg hx (by omega)
    · iterate 4 walk_at "mi"
      exact tail
end
/-! ### folded -/
def b_folded : Ss := (.cons (.own 1 (.comp [2] (.nm 2) (.rng1 (.con (.int 64))) (.con (.bl true)) (.bin .add (.con (.int 17)) (.var 2)))) (.cons (.for' (.tp [2, 3]) (.enum (.var 0)) (.cons (.setOwn 1 (.bin .mod (.var 2) (.con (.int 64))) (.bin .mod (.bin .add (.bin .mul (.ix (.var 1) (.bin .mod (.var 2) (.con (.int 64)))) (.con (.int 48271))) (.var 3)) (.con (.int 2147483647)))) .nil)) (.cons (.for' (.nm 2) (.rng2 (.con (.int 1)) (.con (.int 64))) (.cons (.setOwn 1 (.var 2) (.bin .mod (.bin .add (.ix (.var 1) (.var 2)) (.bin .mul (.ix (.var 1) (.bin .sub (.var 2) (.con (.int 1)))) (.con (.int 16807)))) (.con (.int 2147483647)))) .nil)) (.cons (.retV 1) .nil))))
def f_folded : Fn := ⟨1, 4, b_folded⟩
theorem rngL_get {lo : Int} {n i : Nat} {d : D} (e : (rngL lo n)[i]? = some d) : i < n ∧ d = .int (lo + (i : Nat)) := by
  unfold rngL at e
  rw [List.getElem?_map] at e
  by_cases hi : i < n
  · rw [List.getElem?_range hi] at e
    exact ⟨hi, (Option.some.inj e).symm⟩
  · rw [List.getElem?_eq_none (by simpa using hi)] at e
    cases e
theorem rngL_mem {lo : Int} {n : Nat} {d : D} (h : d ∈ rngL lo n) : ∃ i : Nat, i < n ∧ d = .int (lo + (i : Nat)) := by
  obtain ⟨i, hi⟩ := List.getElem?_of_mem h
  exact ⟨i, rngL_get hi⟩
theorem rngL_length {lo : Int} {n : Nat} : (rngL lo n).length = n := by simp [rngL]
theorem w_ixB {h : Hh} {l : List D} {i : Int} {d : D} {Q : R → Hh → Prop} (q : atI l i = some d) (p : Q (.dat d) h) : ev (ofR h (ixF h (.bor l) (.dat (.int i))) .dat) Q := by
  refine w_ofR ?_ p
  exact q
def Cells (cs : List Int) : Prop := cs.length = 64 ∧ ∀ c ∈ cs, 0 ≤ c ∧ c < 2 ^ 31
theorem Cells.set {cs : List Int} (h : Cells cs) (j : Nat) (x : Int) : Cells (cs.set j (x % 2147483647)) := by
  refine ⟨by simpa using h.1, fun c hc => ?_⟩
  rcases List.mem_or_eq_of_mem_set hc with hc | rfl
  · exact h.2 c hc
  · have := Int.emod_nonneg x (show (2147483647 : Int) ≠ 0 by decide)
    have := Int.emod_lt_of_pos x (show (0 : Int) < 2147483647 by decide)
    omega
theorem set_ints (cs : List Int) (j : Nat) (x : Int) : (cs.map D.int).set j (.int x) = (cs.set j x).map D.int := (List.map_set ..).symm
section
variable {T : Tab} {G : Str → Option D} {n : Nat} {h : Hh}
theorem folded_ok (hT : T "_law_folded" = some f_folded) {ns : List Int} :
    ev (run T G (n + 1) "_law_folded" [scriptD ns] h) fun r h' => h' = h ∧ ∃ cs : List Int, r = .new (cs.map .int) ∧ Cells cs := by
  refine v_run hT rfl ?_
  unfold f_folded b_folded scriptD
  simp only [Fn.env, List.map_cons, List.map_nil, Nat.reduceSub, List.replicate_succ, List.replicate_zero, List.cons_append, List.nil_append]
  repeat walk_at "mi"
  refine ev_of (comp_map (fun d => match d with | .int i => .int (17 + i) | d => d) (by rw [rngL_length]; decide) fun d hd => ?_) ?_
  · obtain ⟨i, hi, rfl⟩ := rngL_mem hd
    refine ev_eq ?_
    show ev (compG _ _ _ _ _ h) _
    repeat walk_at "mi"
    exact ⟨rfl, rfl⟩
  have e1 : (rngL 0 (64 : Int).toNat).map (fun d => match d with | .int i => .int (17 + i) | d => d) = ((List.range 64).map fun i : Nat => (17 + (i : Int))).map D.int := by
    simp [rngL]
  rw [List.nil_append, e1]
  have c0 : Cells ((List.range 64).map fun i : Nat => (17 + (i : Int))) := ⟨by simp, fun c hc => by
    obtain ⟨i, hi, rfl⟩ := List.mem_map.mp hc
    have := List.mem_range.mp hi
    omega⟩
  generalize (List.range 64).map (fun i : Nat => (17 + (i : Int))) = cs at c0
  repeat walk_at "mi"
  refine w_ofR (a := ns.map .int) rfl ?_
  refine ev_for (fun _ e g => g = h ∧ ∃ cs s2 s3, e = [.val (.arg (ns.map .int)), .own (cs.map .int), s2, s3] ∧ Cells cs) ⟨rfl, cs, _, _, rfl, c0⟩ ?_ ?_
  · rintro i d e g hd ⟨rfl, cs, s2, s3, rfl, hc⟩
    obtain ⟨d', g1, rfl⟩ := enum_get hd
    rw [List.getElem?_map] at g1
    obtain ⟨x, _, rfl⟩ := Option.map_eq_some_iff.mp g1
    refine ⟨_, rfl, ?_⟩
    repeat walk_at "mi"
    have hj : ((((0 + i : Nat)) : Int) % 64).toNat < cs.length := by rw [hc.1]; omega
    refine w_ixB (atI_in (by omega) (by simpa using hj)) ?_
    rw [List.getElem_map]
    repeat walk_at "mi"
    refine v_setOR (ixN_in (by omega) (by rw [List.length_map, hc.1]; omega)) ?_
    rw [set_ints]
    repeat walk_at "mi"
    exact ⟨rfl, _, _, _, rfl, hc.set _ _⟩
  · rintro e g ⟨rfl, cs, s2, s3, rfl, hc⟩
    repeat walk_at "mi"
    refine ev_for (fun _ e g' => g' = g ∧ ∃ cs s2 s3, e = [.val (.arg (ns.map .int)), .own (cs.map .int), s2, s3] ∧ Cells cs) ⟨rfl, cs, _, _, rfl, hc⟩ ?_ ?_
    · rintro i d e g hd ⟨rfl, cs, s2, s3, rfl, hc⟩
      obtain ⟨hi, rfl⟩ := rngL_get hd
      have hi : i < 63 := hi
      refine ⟨_, rfl, ?_⟩
      repeat walk_at "mi"
      refine w_ixB (atI_in (by omega) (by rw [List.length_map, hc.1]; omega)) ?_
      rw [List.getElem_map]
      repeat walk_at "mi"
      refine w_ixB (atI_in (by omega) (by rw [List.length_map, hc.1]; omega)) ?_
      rw [List.getElem_map]
      repeat walk_at "mi"
      refine v_setOR (ixN_in (by omega) (by rw [List.length_map, hc.1]; omega)) ?_
      rw [set_ints]
      repeat walk_at "mi"
      exact ⟨rfl, _, _, _, rfl, hc.set _ _⟩
    · rintro e g ⟨rfl, cs, s2, s3, rfl, hc⟩
      repeat walk_at "mi"
      exact ⟨rfl, cs, rfl, hc⟩
def b_begun : Ss := (.cons (.asg 1 (.dct [.inr "cells", .inr "left", .inr "at"] (.cons (.promo (.call "_law_folded" (.cons (.var 0) .nil))) (.cons (.promo (.lst .nil)) (.cons (.con (.int 0)) .nil))))) (.cons (.setD (.var 1) (.con (.str "left")) (.promo (.comp [2] (.nm 2) (.seq (.var 0)) (.con (.bl true)) (.ite (.cmp .ge (.var 2) (.bin .pow (.con (.int 10)) (.con (.int 18)))) (.var 2) (.con (.int 0)))))) (.cons (.ret (.var 1)) .nil)))
def f_begun : Fn := ⟨1, 3, b_begun⟩
theorem put_left {ci li : Nat} {a : Int} {d : D} : dPut [(.inr "cells", .ref ci), (.inr "left", .ref li), (.inr "at", .int a)] (.inr "left") d = [(.inr "cells", .ref ci), (.inr "left", d), (.inr "at", .int a)] := by rfl
theorem begun_ok (hT : T "_law_folded" = some f_folded) (hB : T "_law_begun" = some f_begun) {ns : List Int} (hn : ns.length ≤ 63) :
    ev (run T G (n + 2) "_law_begun" [scriptD ns] []) fun r h' => r = .dat (.ref 2) ∧ h'.length = 4 ∧ Dr h' 2 0 3 0 := by
  refine v_run hB rfl ?_
  unfold f_begun b_begun
  simp only [Fn.env, List.map_cons, List.map_nil, Nat.reduceSub, List.replicate_succ, List.replicate_zero, List.cons_append, List.nil_append]
  repeat walk_at "mi"
  refine ev_mono (folded_ok hT) ?_
  rintro r h1 ⟨rfl, cs, rfl, hc⟩
  repeat walk_at "mi"
  have fact : ∀ d ∈ ns.map D.int, compF (run T G (n + 1)) G [2] (.nm 2) (.con (.bl true)) (.ite (.cmp .ge (.var 2) (.bin .pow (.con (.int 10)) (.con (.int 18)))) (.var 2) (.con (.int 0)))
      [.val (scriptD ns), .val (.ref 2), .un] d [.lst (cs.map .int), .lst [], .dct [(.inr "cells", .ref 0), (.inr "left", .ref 1), (.inr "at", .int 0)]] =
      .ok (some ((fun d => match d with | .int i => .int (if 10 ^ 18 ≤ i then i else 0) | d => d) d)) [.lst (cs.map .int), .lst [], .dct [(.inr "cells", .ref 0), (.inr "left", .ref 1), (.inr "at", .int 0)]] := by
    intro d hd
    obtain ⟨x, _, rfl⟩ := List.mem_map.mp hd
    refine ev_eq ?_
    show ev (compG _ _ _ _ _ _) _
    repeat walk_at "mi"
    refine ev_br (fun hx => ?_) (fun hx => ?_)
    · repeat walk_at "mi"
      have hx := of_decide_eq_true hx
      refine ⟨?_, rfl⟩
      show _ = some (D.int (if 10 ^ 18 ≤ x then x else 0))
      exact congrArg (fun z => some (D.int z)) (if_pos hx).symm
    · repeat walk_at "mi"
      have hx := of_decide_eq_false hx
      refine ⟨?_, rfl⟩
      show _ = some (D.int (if 10 ^ 18 ≤ x then x else 0))
      exact congrArg (fun z => some (D.int z)) (if_neg hx).symm
  simp only [List.nil_append, List.cons_append, List.length_nil, List.length_cons, Nat.zero_add, Nat.reduceAdd, List.zip_cons_cons, List.zip_nil_left]
  refine w_of (a := ns.map .int) rfl ?_
  refine ev_of (comp_map _ (by rw [List.length_nil, Nat.zero_add, List.length_map]; exact Nat.le_trans hn (by decide)) fact) ?_
  rw [List.nil_append]
  have e1 : (ns.map D.int).map (fun d => match d with | .int i => .int (if 10 ^ 18 ≤ i then i else 0) | d => d) = (ns.map fun i => if 10 ^ 18 ≤ i then i else 0).map D.int := by
    simp
  rw [e1]
  repeat walk_at "mi"
  simp only [List.nil_append, List.cons_append, List.length_nil, List.length_cons, Nat.zero_add, Nat.reduceAdd, List.zip_cons_cons, List.zip_nil_left]
  refine v_setDR (l := [(.inr "cells", .ref 0), (.inr "left", .ref 1), (.inr "at", .int 0)]) rfl rfl (show 3 < sizeLine by decide) ?_
  rw [put_left]
  repeat walk_at "mi"
  refine ⟨rfl, rfl, ⟨cs, ns.map fun i => if 10 ^ 18 ≤ i then i else 0, 0, rfl, rfl, hc.1, hc.2, rfl, ?_, by omega, by omega⟩, by decide, by decide, by decide⟩
  intro x hx
  obtain ⟨y, _, rfl⟩ := List.mem_map.mp hx
  split <;> omega
end
end Mi
/-! Mi13: texts; the small looks at numbers and names. -/
namespace Mi
open PySem PySem.Spec PyProof.Rows L2
/-! ### texts -/
/-- a plain text of at most k signs -/
def Wd (k : Nat) (s : Str) : Prop := s.length ≤ k ∧ ∀ c ∈ s.cps.toList, c < 0x110000
def wdB (k : Nat) (s : Str) : Bool := decide (s.length ≤ k) && s.cps.toList.all fun c => decide (c < 0x110000)
theorem Wd.of {k : Nat} {s : Str} (h : wdB k s = true) : Wd k s := by
  unfold wdB at h
  simp only [Bool.and_eq_true, decide_eq_true_eq, List.all_eq_true] at h
  exact h
theorem Wd.le {k j : Nat} {s : Str} (h : Wd k s) (hk : k ≤ j) : Wd j s := ⟨Nat.le_trans h.1 hk, h.2⟩
theorem Wd.ok {k : Nat} {s : Str} (h : Wd k s) : PyData.strOk s = true := by
  unfold PyData.strOk
  rw [Array.all_eq_true']
  intro c hc
  simpa using h.2 c (by simpa using hc)
theorem Wd.app {k j : Nat} {x y : Str} (a : Wd k x) (b : Wd j y) : Wd (k + j) (x ++ y) := by
  refine ⟨by rw [PySem.Str.length_append]; exact Nat.add_le_add a.1 b.1, fun c hc => ?_⟩
  rw [PySem.Str.cps_append, Array.toList_append, List.mem_append] at hc
  exact hc.elim (a.2 c) (b.2 c)
theorem Wd.cut {k : Nat} {x : Str} (a : Wd k x) (lo hi : Option Int) : Wd k (cutS x lo hi) := by
  have sub : (cutS x lo hi).cps.toList.Sublist x.cps.toList := by
    unfold cutS
    show (List.take _ (List.drop _ _)).Sublist _
    exact (List.take_sublist _ _).trans (List.drop_sublist _ _)
  refine ⟨?_, fun c hc => a.2 c (sub.subset hc)⟩
  have := sub.length_le
  have e1 : (cutS x lo hi).cps.toList.length = (cutS x lo hi).length := by simp [Str.length]
  have e2 : x.cps.toList.length = x.length := by simp [Str.length]
  have := a.1
  omega
theorem Wd.one {k c : Nat} {x : Str} (a : Wd k x) (h : c ∈ x.cps.toList) : Wd 1 ⟨#[c]⟩ := ⟨Nat.le_refl _, fun d hd => by
  have : d = c := by simpa using hd
  rw [this]; exact a.2 c h⟩
theorem Wd.join {k : Nat} {sep : Str} (hs : Wd 0 sep) : ∀ {ys : List Str}, (∀ y ∈ ys, Wd k y) → Wd (ys.length * k) (Str.join sep ys)
  | [], _ => by refine ⟨Nat.zero_le _, fun c hc => ?_⟩; simp [Str.join, Str.empty] at hc
  | [x], h => by
    have := h x List.mem_cons_self
    simpa [Str.join] using this
  | x :: y :: ys, h => by
    have h1 := h x List.mem_cons_self
    have h2 := Wd.join (k := k) (ys := y :: ys) hs fun z hz => h z (List.mem_cons_of_mem _ hz)
    have := (h1.app hs).app h2
    refine this.le ?_
    simp only [List.length_cons, Nat.add_mul]
    omega
theorem txt_join {sep : Str} {ys : List Str} : Txt.join sep ys = Str.join sep ys := PySem.StrLaws.glued_eq_join sep ys
theorem w_addS {x y : Str} {a b : Nat} {h : Hh} {Q : R → Hh → Prop} (ha : Wd a x) (hb : Wd b y) (hz : a + b ≤ sizeLine) (p : Wd (a + b) (x ++ y) → Q (.dat (.str (x ++ y))) h) : ev (Res.of h (binF h .add (.dat (.str x)) (.dat (.str y)))) Q := by
  have := ha.1
  have := hb.1
  refine w_of (a := .dat (.str (x ++ y))) ?_ (p (ha.app hb))
  show (if x.length + y.length ≤ sizeLine then _ else _) = _
  rw [if_pos (by omega)]
theorem w_slS {x : Str} {a : Nat} {lo hi : Option Int} {h : Hh} {Q : R → Hh → Prop} (ha : Wd a x) (hz : a ≤ sizeLine) (p : Wd a (cutS x lo hi) → Q (.dat (.str (cutS x lo hi))) h) : ev (Res.of h (slF h lo hi (.dat (.str x)))) Q := by
  have := ha.1
  refine w_of (a := .dat (.str (cutS x lo hi))) ?_ (p (ha.cut lo hi))
  show (if x.length ≤ sizeLine then _ else _) = _
  rw [if_pos (by omega)]
theorem w_ixS {x : Str} {a : Nat} {i : Int} {h : Hh} {Q : R → Hh → Prop} (ha : Wd a x) (hz : a ≤ sizeLine) (h0 : 0 ≤ i) (h1 : i < x.length) (p : ∀ c ∈ x.cps.toList, Wd 1 ⟨#[c]⟩ → Q (.dat (.str ⟨#[c]⟩)) h) : ev (ofR h (ixF h (.dat (.str x)) (.dat (.int i))) .dat) Q := by
  have := ha.1
  have hl : i.toNat < x.cps.toList.length := by simp only [Array.length_toList]; unfold Str.length at h1; omega
  have hm := List.getElem_mem hl
  refine w_ofR (a := .str ⟨#[x.cps.toList[i.toNat]]⟩) ?_ (p _ hm (ha.one hm))
  show (if x.length ≤ sizeLine then _ else _) = _
  rw [if_pos (by omega), atI_in h0 hl]
  rfl
theorem w_lenS {x : Str} {a : Nat} {h : Hh} {Q : R → Hh → Prop} (ha : Wd a x) (hz : a ≤ sizeLine) (p : Q (.dat (.int x.length)) h) : ev (Res.of h (bltF h .len [.str x])) Q := by
  have := ha.1
  refine w_of (a := .dat (.int x.length)) ?_ p
  show (if x.length ≤ sizeLine then _ else _) = _
  rw [if_pos (by omega)]
/-! ### flat things in flat lists -/
theorem flats_strs : ∀ ws : List Str, flats (ws.map .str) = some (ws.map V.str)
  | [] => by simp [flats]
  | x :: xs => by simp [flats, D.flat, flats_strs xs]
theorem w_inS {x : Str} {ws : List Str} {y : R} {h : Hh} {Q : R → Hh → Prop} (e : sv h y = some (ws.map .str)) (hy : ∀ b, y ≠ .dat (.str b)) (p : Q (.dat (.bl (inV (.str x) (ws.map V.str)))) h) : ev (ofR h (cmpF h .isin (.dat (.str x)) y) fun b => R.dat (.bl b)) Q := by
  refine w_ofR (a := inV (.str x) (ws.map V.str)) ?_ p
  show inF h (.dat (.str x)) y = _
  have e2 : (sv h y).bind flats = some (ws.map V.str) := by rw [e]; exact flats_strs ws
  cases y with
  | dat d =>
    cases d with
    | str b => exact absurd rfl (hy b)
    | _ => simp only [inF, D.flat, e2]
  | _ => simp only [inF, D.flat, e2]
theorem w_notinS {x : Str} {ws : List Str} {y : R} {h : Hh} {Q : R → Hh → Prop} (e : sv h y = some (ws.map .str)) (hy : ∀ b, y ≠ .dat (.str b)) (p : Q (.dat (.bl (!inV (.str x) (ws.map V.str)))) h) : ev (ofR h (cmpF h .notin (.dat (.str x)) y) fun b => R.dat (.bl b)) Q := by
  have q : ev (ofR h (cmpF h .isin (.dat (.str x)) y) fun b => R.dat (.bl b)) fun r g => r = .dat (.bl (inV (.str x) (ws.map V.str))) ∧ g = h := w_inS e hy ⟨rfl, rfl⟩
  refine w_ofR (a := !inV (.str x) (ws.map V.str)) ?_ p
  show (inF h (.dat (.str x)) y).map (!·) = _
  cases z : inF h (.dat (.str x)) y with
  | none =>
    have q' : ev (ofR h (inF h (.dat (.str x)) y) fun b => R.dat (.bl b)) _ := q
    rw [z] at q'; exact q'.elim
  | some b =>
    have q' : ev (ofR h (inF h (.dat (.str x)) y) fun b => R.dat (.bl b)) _ := q
    rw [z] at q'
    have : R.dat (.bl b) = .dat (.bl (inV (.str x) (ws.map V.str))) := q'.1
    cases this
    rfl
theorem w_in1 {c : Nat} {z : Str} {h : Hh} {Q : R → Hh → Prop} (p : Q (.dat (.bl (decide (c ∈ z.cps.toList)))) h) : ev (ofR h (cmpF h .isin (.dat (.str ⟨#[c]⟩)) (.dat (.str z))) fun b => R.dat (.bl b)) Q := p
theorem w_notin1 {c : Nat} {z : Str} {h : Hh} {Q : R → Hh → Prop} (p : Q (.dat (.bl (!decide (c ∈ z.cps.toList)))) h) : ev (ofR h (cmpF h .notin (.dat (.str ⟨#[c]⟩)) (.dat (.str z))) fun b => R.dat (.bl b)) Q := p
theorem boolsOf_map {α : Type} (f : α → Bool) : ∀ l : List α, boolsOf (l.map fun x => .bl (f x)) = some (l.map f)
  | [] => by simp [boolsOf]
  | x :: xs => by simp [boolsOf, boolsOf_map f xs]
theorem w_all {α : Type} {f : α → Bool} {l : List α} {h : Hh} {Q : R → Hh → Prop} (p : Q (.dat (.bl (l.all f))) h) : ev (Res.of h (bltF h .all [.lst (l.map fun x => .bl (f x))])) Q := by
  refine w_of (a := .dat (.bl (l.all f))) ?_ p
  show (boolsOf _).map _ = _
  rw [boolsOf_map]
  simp [List.all_map]
/-- it can be looked at -/
def seen (h : Hh) : D → Bool
  | .arg _ => false
  | .ref n => h[n]?.isSome
  | _ => true
def isInt : D → Bool
  | .int _ => true
  | .bl _ => true
  | _ => false
def isBl : D → Bool
  | .bl _ => true
  | _ => false
def isStr : D → Bool
  | .str _ => true
  | _ => false
def isTup : D → Bool
  | .tup _ => true
  | _ => false
def whole : D → Bool
  | .int _ => true
  | _ => false
section
variable {h : Hh} {d : D} {Q : R → Hh → Prop}
theorem isi_int (s : seen h d = true) : isiF h .int d = some (isInt d) := by
  cases d <;> try rfl
  · cases s
  · rename_i n
    simp only [seen] at s
    simp only [isiF]
    cases e : h[n]? with
    | none => rw [e] at s; cases s
    | some o => cases o <;> rfl
theorem isi_bl (s : seen h d = true) : isiF h .bool d = some (isBl d) := by
  cases d <;> try rfl
  · cases s
  · rename_i n
    simp only [seen] at s
    simp only [isiF]
    cases e : h[n]? with
    | none => rw [e] at s; cases s
    | some o => cases o <;> rfl
theorem isi_str (s : seen h d = true) : isiF h .str d = some (isStr d) := by
  cases d <;> try rfl
  · cases s
  · rename_i n
    simp only [seen] at s
    simp only [isiF]
    cases e : h[n]? with
    | none => rw [e] at s; cases s
    | some o => cases o <;> rfl
theorem isi_tup (s : seen h d = true) : isiF h .tuple d = some (isTup d) := by
  cases d <;> try rfl
  · cases s
  · rename_i n
    simp only [seen] at s
    simp only [isiF]
    cases e : h[n]? with
    | none => rw [e] at s; cases s
    | some o => cases o <;> rfl
theorem w_isI (s : seen h d = true) (p : Q (.dat (.bl (isInt d))) h) : ev (ofR h (isiF h .int d) fun b => R.dat (.bl b)) Q := w_ofR (isi_int s) p
theorem w_isB (s : seen h d = true) (p : Q (.dat (.bl (isBl d))) h) : ev (ofR h (isiF h .bool d) fun b => R.dat (.bl b)) Q := w_ofR (isi_bl s) p
theorem w_isS (s : seen h d = true) (p : Q (.dat (.bl (isStr d))) h) : ev (ofR h (isiF h .str d) fun b => R.dat (.bl b)) Q := w_ofR (isi_str s) p
theorem w_isT (s : seen h d = true) (p : Q (.dat (.bl (isTup d))) h) : ev (ofR h (isiF h .tuple d) fun b => R.dat (.bl b)) Q := w_ofR (isi_tup s) p
end
local macro_rules | `(tactic| walk_at "mi") => `(tactic| first
  | with_reducible refine w_con ?_ | ((with_reducible refine' w_var ?e ?_); case e => rfl)
  | with_reducible refine w_bin ?_ | with_reducible refine w_fzD ?_ | with_reducible refine w_bind ?_ | with_reducible refine w_ok ?_
  | with_reducible refine w_addI ?_ | with_reducible refine w_subI ?_
  | with_reducible refine w_cons ?_ | with_reducible refine w_nil ?_ | with_reducible refine w_call ?_
  | with_reducible refine v_cons ?_ | ((with_reducible refine v_contN ?_); try simp only [setV, List.set_cons_succ, List.set_cons_zero]) | with_reducible refine v_contR ?_ | with_reducible refine v_asg ?_ | with_reducible refine v_ret ?_ | with_reducible refine v_retD ?_ | with_reducible refine v_endR ?_
  | with_reducible refine v_nil ?_ | with_reducible refine v_ifs ?_ | with_reducible refine w_brt ?_ | with_reducible refine w_brf ?_
  | with_reducible refine w_and ?_ | with_reducible refine w_or ?_ | with_reducible refine w_not ?_ | with_reducible refine w_notR ?_ | with_reducible refine w_ite ?_
  | with_reducible refine w_cmp ?_ | with_reducible refine w_chain ?_ | with_reducible refine w_ltI ?_ | with_reducible refine w_leI ?_ | with_reducible refine w_gtI ?_ | with_reducible refine w_geI ?_ | with_reducible refine w_eqI ?_
  | with_reducible refine w_isi ?_ | with_reducible refine w_blt ?_ | with_reducible refine w_ix ?_ | with_reducible refine w_dget ?_
  | ((with_reducible refine' w_modI ?e ?_); case e => (first | decide | omega))
  | ((with_reducible refine' w_fdivI ?e ?_); case e => (first | decide | omega))
  | ((with_reducible refine' w_mulI ?e ?_); case e => (first | exact near_r (by decide) | exact near_l (by decide) | exact near_ro (by omega) (by omega) | exact near_lo (by omega) (by omega)))
  | ((with_reducible refine' w_powI ?e ?_); case e => decide)
  | with_reducible refine w_neg ?_ | with_reducible refine w_negI ?_
  | with_reducible refine w_tup ?_ | with_reducible refine w_lst ?_ | ((with_reducible refine' w_lenR ?e ?_); case e => (first | decide | (simp only [List.length_cons, List.length_nil, Nat.zero_add, Nat.reduceAdd]; decide)))
  | with_reducible refine w_fzN ?_ | ((with_reducible refine' w_glo ?e ?_); case e => (first | assumption | rfl))
  | with_reducible refine w_sl ?_ | with_reducible refine w_ono ?_ | with_reducible refine w_opart ?_ | with_reducible refine w_intR ?_ | with_reducible refine w_strR ?_ | with_reducible refine w_tupR ?_ | with_reducible refine w_newR ?_ | ((with_reducible refine' w_optR ?e ?_); case e => rfl)
  | with_reducible refine w_mth ?_ | with_reducible refine w_comp ?_ | with_reducible refine w_seq ?_ | with_reducible refine w_rng1 ?_ | with_reducible refine w_rng2 ?_ | with_reducible refine w_rng3 ?_ | with_reducible refine w_enum ?_ | ((with_reducible refine' w_rng1R ?e ?_); case e => exact rng_ok1 (by omega) (by omega)) | ((with_reducible refine' w_rngR ?e ?_); case e => exact rng_ok2 (by omega) (by omega) (by omega) (by omega)) | ((with_reducible refine' w_rngD ?e ?_); case e => exact rng_ok2 (by omega) (by omega) (by omega) (by omega))
  | with_reducible refine w_promo ?_ | with_reducible refine w_proN ?_ | with_reducible refine w_proD ?_ | with_reducible refine w_dct ?_ | ((with_reducible refine' w_dctR ?e ?_); case e => decide)
  | with_reducible refine v_own ?_ | with_reducible refine v_any ?_ | with_reducible refine v_anyN ?_ | with_reducible refine v_anyD ?_ | with_reducible refine w_blt1 ?_ | with_reducible refine v_asgs ?_ | with_reducible refine v_setL ?_ | with_reducible refine v_setD ?_ | with_reducible refine v_setOwn ?_ | ((with_reducible refine' v_ownR ?e ?_); case e => rfl)
  | ((with_reducible refine' v_app ?e ?_); case e => rfl) | ((with_reducible refine' v_ext ?e ?_); case e => rfl) | with_reducible refine v_expr ?_ | with_reducible refine v_for ?_ | with_reducible refine v_whl ?_
  | ((with_reducible refine' v_retV ?e ?_); case e => rfl) | with_reducible refine v_retn ?_ | with_reducible refine v_pass ?_ | with_reducible refine v_brk ?_ | with_reducible refine v_cnt ?_ | ((with_reducible refine' v_frz ?e ?_); case e => rfl)
  | with_reducible refine v_contB ?_ | with_reducible refine v_contC ?_ | with_reducible refine v_retN ?_ | with_reducible refine v_endN ?_ | with_reducible refine w_compG ?_
  | ((with_reducible refine' w_varO ?e ?_); case e => rfl)
  | ((with_reducible refine' w_dgetK ?e ?q ?_); (case e => first | assumption | rfl); (case q => rfl); (try dsimp only)))

def f_is_whole : Fn := ⟨1, 1, (.cons (.ret (.and2 (.isi (.var 0) .int) (.not1 (.isi (.var 0) .bool)))) .nil)⟩
def f_is_among : Fn := ⟨3, 3, (.cons (.ret (.and2 (.call "is_whole" (.cons (.var 0) .nil)) (.chain .le .le (.var 1) (.var 0) (.var 2)))) .nil)⟩
def among (a b : Int) : D → Bool
  | .int i => decide (a ≤ i) && decide (i ≤ b)
  | _ => false
section
variable {T : Tab} {G : Str → Option D} {n : Nat} {h : Hh} {d : D}
theorem whole_ok (hT : T "is_whole" = some f_is_whole) (s : seen h d = true) : run T G (n + 1) "is_whole" [d] h = .ok (.dat (.bl (whole d))) h := by
  refine ev_eq (v_run hT rfl ?_)
  unfold f_is_whole
  simp only [Fn.env, List.map_cons, List.map_nil, Nat.reduceSub, List.replicate_succ, List.replicate_zero, List.cons_append, List.nil_append]
  repeat walk_at "mi"
  refine w_isI s (ev_br (fun h1 => ?_) (fun h1 => ?_))
  · repeat walk_at "mi"
    refine w_isB s ?_
    repeat walk_at "mi"
    refine ⟨?_, rfl⟩
    cases d <;> first | rfl | cases h1
  · repeat walk_at "mi"
    refine ⟨?_, rfl⟩
    cases d <;> first | rfl | cases h1
theorem among_ok (hT : T "is_whole" = some f_is_whole) (hA : T "is_among" = some f_is_among) {a b : Int} (s : seen h d = true) : run T G (n + 2) "is_among" [d, .int a, .int b] h = .ok (.dat (.bl (among a b d))) h := by
  refine ev_eq (v_run hA rfl ?_)
  unfold f_is_among
  simp only [Fn.env, List.map_cons, List.map_nil, Nat.reduceSub, List.replicate_succ, List.replicate_zero, List.cons_append, List.nil_append]
  repeat walk_at "mi"
  refine ev_of (whole_ok hT s) ?_
  cases d with
  | int i =>
    show ev (brR (.dat (.bl true)) _ _) _
    repeat walk_at "mi"
    refine ev_br (fun h1 => ?_) (fun h1 => ?_)
    · repeat walk_at "mi"
      exact ⟨by simp only [among, h1, Bool.true_and], rfl⟩
    · repeat walk_at "mi"
      exact ⟨by simp only [among, h1, Bool.false_and], rfl⟩
  | _ => exact ⟨rfl, rfl⟩
end
/-! ### is_name -/
def letters : Str := "abcdefghijklmnopqrstuvwxyz"
def barred : List Str := ["any", "is", "name", "both", "either", "not", "first", "row", "lot", "turned", "all", "use", "hole", "one", "stretch", "rest", "rule", "end"]
def f_is_name : Fn := ⟨1, 2, (.cons (.ifs (.or2 (.not1 (.isi (.var 0) .str)) (.or2 (.not1 (.chain .le .le (.con (.int 1)) (.blt .len (.cons (.var 0) .nil)) (.glo "MOST_LETTERS"))) (.cmp .isin (.var 0) (.glo "BARRED")))) (.cons (.ret (.con (.bl false))) .nil) .nil) (.cons (.ret (.blt .all (.cons (.comp [1] (.nm 1) (.seq (.var 0)) (.con (.bl true)) (.cmp .isin (.var 1) (.glo "LETTERS"))) .nil))) .nil))⟩
def signs (s : Str) : Bool := s.cps.toList.all fun c => decide (c ∈ letters.cps.toList)
def nameS (s : Str) : Bool := decide (1 ≤ (s.length : Int)) && decide ((s.length : Int) ≤ 6) && !inV (.str s) (barred.map V.str) && signs s
def nameD : D → Bool
  | .str s => nameS s
  | _ => false
section
variable {T : Tab} {G : Str → Option D} {n : Nat} {h : Hh} {d : D}
theorem name_ok (hT : T "is_name" = some f_is_name) (g1 : G "LETTERS" = some (.str letters)) (g2 : G "MOST_LETTERS" = some (.int 6)) (g3 : G "BARRED" = some (.tup (barred.map .str))) (s : seen h d = true) (hw : ∀ w, d = .str w → Wd 1000 w) :
    run T G (n + 1) "is_name" [d] h = .ok (.dat (.bl (nameD d))) h := by
  refine ev_eq (v_run hT rfl ?_)
  unfold f_is_name
  simp only [Fn.env, List.map_cons, List.map_nil, Nat.reduceSub, List.replicate_succ, List.replicate_zero, List.cons_append, List.nil_append]
  repeat walk_at "mi"
  refine w_isS s ?_
  by_cases hd : isStr d = true
  · cases d with
    | str w =>
      have wd := hw w rfl
      show ev (notR (.dat (.bl true)) _) _
      repeat walk_at "mi"
      simp only [Bool.not_true]
      repeat walk_at "mi"
      refine w_lenS wd (by decide) ?_
      repeat walk_at "mi"
      have bad : ∀ {b : Bool} {g : Hh}, nameS w = false → b = false → g = h → R.dat (.bl b) = .dat (.bl (nameD (.str w))) ∧ g = h := by
        rintro b g e rfl rfl
        exact ⟨by show _ = R.dat (.bl (nameS w)); rw [e], rfl⟩
      refine ev_br (fun h1 => ?_) (fun h1 => ?_)
      · repeat walk_at "mi"
        refine ev_br (fun h2 => ?_) (fun h2 => ?_)
        · repeat walk_at "mi"
          exact bad (by simp only [Bool.not_eq_true'] at h2; simp only [nameS, h2, Bool.and_false, Bool.false_and]) rfl rfl
        · repeat walk_at "mi"
          refine w_inS (ws := barred) rfl (fun _ z => by cases z) ?_
          repeat walk_at "mi"
          refine ev_br (fun h3 => ?_) (fun h3 => ?_)
          · repeat walk_at "mi"
            exact bad (by simp only [nameS, h3, Bool.not_true, Bool.and_false, Bool.false_and]) rfl rfl
          · repeat walk_at "mi"
            refine w_of (a := signsL w) rfl ?_
            have hlen : w.cps.toList.length ≤ 1000 := by simpa [Str.length] using wd.1
            have em : signsL w = w.cps.toList.map fun c => .str ⟨#[c]⟩ := rfl
            have fact : compR (run T G n) G [1] (.nm 1) (.con (.bl true)) (.cmp .isin (.var 1) (.glo "LETTERS")) [.val (.str w), .un] (signsL w) h = .ok (.new (w.cps.toList.map fun c => .bl (decide (c ∈ letters.cps.toList)))) h := by
              unfold compR
              rw [comp_map (fun d => match d with | .str s => .bl (s.cps.toList.all fun c => decide (c ∈ letters.cps.toList)) | d => d) (by rw [em, List.length_nil, Nat.zero_add, List.length_map]; exact Nat.le_trans hlen (by decide)) fun d hd => ?_]
              · rw [em, List.nil_append, List.map_map]
                simp
              · rw [em] at hd
                obtain ⟨c, _, rfl⟩ := List.mem_map.mp hd
                refine ev_eq ?_
                show ev (compG _ _ _ _ _ h) _
                repeat walk_at "mi"
                refine w_in1 ?_
                repeat walk_at "mi"
                exact ⟨by simp, rfl⟩
            refine ev_of fact ?_
            repeat walk_at "mi"
            refine w_all ?_
            repeat walk_at "mi"
            refine ⟨?_, rfl⟩
            simp only [Bool.not_eq_false'] at h2
            show _ = R.dat (.bl (nameS w))
            simp only [nameS, h1, h2, h3, Bool.not_false, Bool.true_and, signs]
      · repeat walk_at "mi"
        exact bad (by simp only [nameS, h1, Bool.false_and]) rfl rfl
    | _ => cases hd
  · have hd : isStr d = false := by simpa using hd
    rw [hd]
    repeat walk_at "mi"
    simp only [Bool.not_false]
    repeat walk_at "mi"
    refine ⟨?_, rfl⟩
    cases d <;> first | rfl | cases hd
end
end Mi
/-! Mi14: drawn words. -/
namespace Mi
open PySem PySem.Spec PyProof.Rows L2
theorem rngOk_of {j : Int} (h1 : -(2 ^ 62) ≤ j) (h2 : j < 2 ^ 62) : rngOk j = true := by
  unfold rngOk
  rw [decide_eq_true h1, decide_eq_true h2]; rfl
theorem strsOf_map : ∀ ws : List Str, strsOf (ws.map .str) = some ws
  | [] => by simp [strsOf]
  | x :: xs => by simp [strsOf, strsOf_map xs]
theorem sum_le {k : Nat} : ∀ {ws : List Str}, (∀ w ∈ ws, Wd k w) → (ws.map (·.length)).sum ≤ ws.length * k
  | [], _ => by simp
  | x :: xs, h => by
    have h1 := (h x List.mem_cons_self).1
    have h2 := sum_le (k := k) (ws := xs) fun w hw => h w (List.mem_cons_of_mem _ hw)
    simp only [List.map_cons, List.sum_cons, List.length_cons, Nat.add_mul]
    omega
theorem w_join {k : Nat} {ws : List Str} {h : Hh} {Q : R → Hh → Prop} (hw : ∀ w ∈ ws, Wd k w) (hz : ws.length * k ≤ 16777216) (p : Wd (ws.length * k) (Str.join "" ws) → Q (.dat (.str (Str.join "" ws))) h) : ev (Res.of h (mthF .join "" [.lst (ws.map .str)])) Q := by
  refine w_of (a := .dat (.str (Str.join "" ws))) ?_ (p (Wd.join (Wd.of (by decide)) hw))
  show (match strsOf (ws.map .str) with
    | some (ys : List Str) => if (ys.map fun y : Str => y.length).sum + ys.length * ("" : Str).length ≤ 16777216 then some (R.dat (.str (Txt.join "" ys))) else none
    | none => none) = _
  rw [strsOf_map]
  have := sum_le hw
  have e0 : ("" : Str).length = 0 := by decide
  simp only
  rw [if_pos (by rw [e0]; omega), txt_join]
theorem w_ixN {h : Hh} {l : List D} {i : Int} {d : D} {Q : R → Hh → Prop} (q : atI l i = some d) (p : Q (.dat d) h) : ev (ofR h (ixF h (.new l) (.dat (.int i))) .dat) Q := w_ofR (by exact q) p
theorem w_ixF {h : Hh} {l : List D} {i : Int} {d : D} {Q : R → Hh → Prop} (q : atI l i = some d) (p : Q (.dat d) h) : ev (ofR h (ixF h (.dat (.lst l)) (.dat (.int i))) .dat) Q := w_ofR (by exact q) p
theorem w_addLN {a b : List D} {h : Hh} {Q : R → Hh → Prop} (z : a.length + b.length ≤ sizeLine) (p : Q (.new (a ++ b)) h) : ev (Res.of h (binF h .add (.dat (.lst a)) (.new b))) Q := by
  refine w_of (a := .new (a ++ b)) ?_ p
  show (if a.length + b.length ≤ sizeLine then _ else _) = _
  rw [if_pos z]
theorem w_addLL {a b : List D} {h : Hh} {Q : R → Hh → Prop} (z : a.length + b.length ≤ sizeLine) (p : Q (.new (a ++ b)) h) : ev (Res.of h (binF h .add (.dat (.lst a)) (.dat (.lst b)))) Q := by
  refine w_of (a := .new (a ++ b)) ?_ p
  show (if a.length + b.length ≤ sizeLine then _ else _) = _
  rw [if_pos z]
theorem w_addNN {a b : List D} {h : Hh} {Q : R → Hh → Prop} (z : a.length + b.length ≤ sizeLine) (p : Q (.new (a ++ b)) h) : ev (Res.of h (binF h .add (.new a) (.new b))) Q := by
  refine w_of (a := .new (a ++ b)) ?_ p
  show (if a.length + b.length ≤ sizeLine then _ else _) = _
  rw [if_pos z]
local macro_rules | `(tactic| walk_at "mi") => `(tactic| first
  | with_reducible refine w_con ?_ | ((with_reducible refine' w_var ?e ?_); case e => rfl)
  | with_reducible refine w_bin ?_ | with_reducible refine w_fzD ?_ | with_reducible refine w_bind ?_ | with_reducible refine w_ok ?_
  | with_reducible refine w_addI ?_ | with_reducible refine w_subI ?_
  | with_reducible refine w_cons ?_ | with_reducible refine w_nil ?_ | with_reducible refine w_call ?_
  | with_reducible refine v_cons ?_ | ((with_reducible refine v_contN ?_); try simp only [setV, List.set_cons_succ, List.set_cons_zero]) | with_reducible refine v_contR ?_ | with_reducible refine v_asg ?_ | with_reducible refine v_ret ?_ | with_reducible refine v_retD ?_ | with_reducible refine v_endR ?_
  | with_reducible refine v_nil ?_ | with_reducible refine v_ifs ?_ | with_reducible refine w_brt ?_ | with_reducible refine w_brf ?_
  | with_reducible refine w_and ?_ | with_reducible refine w_or ?_ | with_reducible refine w_not ?_ | with_reducible refine w_notR ?_ | with_reducible refine w_ite ?_
  | with_reducible refine w_cmp ?_ | with_reducible refine w_chain ?_ | with_reducible refine w_ltI ?_ | with_reducible refine w_leI ?_ | with_reducible refine w_gtI ?_ | with_reducible refine w_geI ?_ | with_reducible refine w_eqI ?_
  | with_reducible refine w_isi ?_ | with_reducible refine w_blt ?_ | with_reducible refine w_ix ?_ | with_reducible refine w_dget ?_
  | ((with_reducible refine' w_modI ?e ?_); case e => (first | decide | omega))
  | ((with_reducible refine' w_fdivI ?e ?_); case e => (first | decide | omega))
  | ((with_reducible refine' w_mulI ?e ?_); case e => (first | exact near_r (by decide) | exact near_l (by decide) | exact near_ro (by omega) (by omega) | exact near_lo (by omega) (by omega)))
  | ((with_reducible refine' w_powI ?e ?_); case e => decide)
  | with_reducible refine w_neg ?_ | with_reducible refine w_negI ?_
  | with_reducible refine w_tup ?_ | with_reducible refine w_lst ?_ | ((with_reducible refine' w_lenR ?e ?_); case e => (first | decide | (simp only [List.length_cons, List.length_nil, Nat.zero_add, Nat.reduceAdd]; decide)))
  | with_reducible refine w_fzN ?_ | ((with_reducible refine' w_glo ?e ?_); case e => (first | assumption | rfl))
  | with_reducible refine w_sl ?_ | with_reducible refine w_ono ?_ | with_reducible refine w_opart ?_ | with_reducible refine w_intR ?_ | with_reducible refine w_strR ?_ | with_reducible refine w_tupR ?_ | with_reducible refine w_newR ?_ | ((with_reducible refine' w_optR ?e ?_); case e => rfl)
  | with_reducible refine w_mth ?_ | with_reducible refine w_comp ?_ | with_reducible refine w_seq ?_ | with_reducible refine w_rng1 ?_ | with_reducible refine w_rng2 ?_ | with_reducible refine w_rng3 ?_ | with_reducible refine w_enum ?_ | ((with_reducible refine' w_rng1R ?e ?_); case e => exact rng_ok1 (by omega) (by omega)) | ((with_reducible refine' w_rngR ?e ?_); case e => exact rng_ok2 (by omega) (by omega) (by omega) (by omega)) | ((with_reducible refine' w_rngD ?e ?_); case e => exact rng_ok2 (by omega) (by omega) (by omega) (by omega))
  | with_reducible refine w_promo ?_ | with_reducible refine w_proN ?_ | with_reducible refine w_proD ?_ | with_reducible refine w_dct ?_ | ((with_reducible refine' w_dctR ?e ?_); case e => decide)
  | with_reducible refine v_own ?_ | with_reducible refine v_any ?_ | with_reducible refine v_anyN ?_ | with_reducible refine v_anyD ?_ | with_reducible refine w_blt1 ?_ | with_reducible refine v_asgs ?_ | with_reducible refine v_setL ?_ | with_reducible refine v_setD ?_ | with_reducible refine v_setOwn ?_ | ((with_reducible refine' v_ownR ?e ?_); case e => rfl)
  | ((with_reducible refine' v_app ?e ?_); case e => rfl) | ((with_reducible refine' v_ext ?e ?_); case e => rfl) | with_reducible refine v_expr ?_ | with_reducible refine v_for ?_ | with_reducible refine v_whl ?_
  | ((with_reducible refine' v_retV ?e ?_); case e => rfl) | with_reducible refine v_retn ?_ | with_reducible refine v_pass ?_ | with_reducible refine v_brk ?_ | with_reducible refine v_cnt ?_ | ((with_reducible refine' v_frz ?e ?_); case e => rfl)
  | with_reducible refine v_contB ?_ | with_reducible refine v_contC ?_ | with_reducible refine v_retN ?_ | with_reducible refine v_endN ?_ | with_reducible refine w_compG ?_
  | ((with_reducible refine' w_varO ?e ?_); case e => rfl)
  | ((with_reducible refine' w_dgetK ?e ?q ?_); (case e => first | assumption | rfl); (case q => rfl); (try dsimp only)))

def f_words : Fn := ⟨2, 15, (.cons (.asg 2 (.con (.str "abcdefghijklmnopqrstuvwxyz"))) (.cons (.asgs [3, 4] (.tup (.cons (.call "_law_draw" (.cons (.var 0) (.cons (.con (.int 26)) .nil))) (.cons (.call "_law_draw" (.cons (.var 0) (.cons (.con (.int 4)) .nil))) .nil)))) (.cons (.asg 5 (.bin .add (.con (.int 1)) (.call "_law_draw" (.cons (.var 0) (.cons (.con (.int 6)) .nil))))) (.cons (.asg 6 (.call "_law_draw" (.cons (.var 0) (.cons (.var 5) .nil)))) (.cons (.asg 7 (.ix (.lst (.cons (.con (.int 1)) (.cons (.con (.int 3)) (.cons (.con (.int 7)) (.cons (.con (.int 11)) (.cons (.con (.int 17)) (.cons (.con (.int 25)) .nil))))))) (.call "_law_draw" (.cons (.var 0) (.cons (.con (.int 6)) .nil))))) (.cons (.asg 8 (.mth .join (.con (.str "")) (.cons (.comp [13] (.nm 13) (.rng1 (.con (.int 8))) (.con (.bl true)) (.ix (.var 2) (.bin .mod (.bin .add (.var 3) (.bin .mul (.con (.int 5)) (.var 13))) (.con (.int 26))))) .nil))) (.cons (.own 9 (.lst .nil)) (.cons (.for' (.nm 10) (.rng1 (.var 1)) (.cons (.asg 11 (.ix (.var 2) (.bin .mod (.bin .add (.var 3) (.bin .mul (.var 7) (.var 10))) (.con (.int 26))))) (.cons (.app 9 (.ite (.cmp .eq (.var 4) (.con (.int 3))) (.bin .add (.var 11) (.sl (.var 8) .no (.part (.bin .mod (.bin .mul (.var 10) (.var 7)) (.con (.int 6)))))) (.bin .add (.bin .add (.sl (.var 8) .no (.part (.var 6))) (.var 11)) (.sl (.var 8) (.part (.bin .add (.var 6) (.con (.int 1)))) (.part (.var 5)))))) .nil))) (.cons (.asg 12 (.lst (.cons (.con (.str "any")) (.cons (.con (.str "is")) (.cons (.con (.str "name")) (.cons (.con (.str "both")) (.cons (.con (.str "either")) (.cons (.con (.str "not")) (.cons (.con (.str "first")) (.cons (.con (.str "row")) (.cons (.con (.str "lot")) (.cons (.con (.str "turned")) (.cons (.con (.str "all")) (.cons (.con (.str "use")) (.cons (.con (.str "hole")) .nil))))))))))))))) (.cons (.asg 12 (.bin .add (.var 12) (.lst (.cons (.con (.str "one")) (.cons (.con (.str "stretch")) (.cons (.con (.str "rest")) (.cons (.con (.str "rule")) (.cons (.con (.str "end")) .nil)))))))) (.cons (.frz 9) (.cons (.ret (.comp [14] (.nm 14) (.seq (.var 9)) (.con (.bl true)) (.ite (.cmp .notin (.var 14) (.var 12)) (.var 14) (.bin .add (.bin .add (.con (.str "zz")) (.sl (.var 14) .no (.part (.con (.int 1))))) (.con (.str "z")))))) .nil))))))))))))⟩
section
variable {T : Tab} {G : Str → Option D} {n : Nat} {h : Hh}
theorem words_ok (hM : T "_law_mixed" = some f_mixed) (hD : T "_law_draw" = some f_draw) (hT : T "_law_words" = some f_words) {m ci li : Nat} {b many : Int} (d : Dr h m ci li b) (hb : b < 2 ^ 58) (hm : 0 ≤ many) (hm2 : many ≤ 1000) :
    ev (run T G (n + 3) "_law_words" [.ref m, .int many] h) fun r h' => ∃ ws : List Str, r = .new (ws.map .str) ∧ ws.length = many.toNat ∧ (∀ w ∈ ws, Wd 40 w) ∧ Dr h' m ci li (b + 5) ∧ Kp m li h h' := by
  refine v_run hT rfl ?_
  unfold f_words
  simp only [Fn.env, List.map_cons, List.map_nil, Nat.reduceSub, List.replicate_succ, List.replicate_zero, List.cons_append, List.nil_append]
  have wl : Wd 26 letters := Wd.of (by decide +kernel)
  have ll : letters.length = 26 := by decide +kernel
  repeat walk_at "mi"
  refine ev_mono (draw_ok hM hD d (by omega) (by decide) (by decide)) ?_
  rintro r h1 ⟨start, rfl, st0, st1, d1, k1⟩
  repeat walk_at "mi"
  refine ev_mono (draw_ok hM hD d1 (by omega) (by decide) (by decide)) ?_
  rintro r h2 ⟨way, rfl, wy0, wy1, d2, k2⟩
  repeat walk_at "mi"
  refine ev_mono (draw_ok hM hD d2 (by omega) (by decide) (by decide)) ?_
  rintro r h3 ⟨siz, rfl, sz0, sz1, d3, k3⟩
  repeat walk_at "mi"
  refine ev_mono (draw_ok hM hD d3 (by omega) (by omega) (by omega)) ?_
  rintro r h4 ⟨pl, rfl, pl0, pl1, d4, k4⟩
  repeat walk_at "mi"
  refine ev_mono (draw_ok hM hD d4 (by omega) (by decide) (by decide)) ?_
  rintro r h5 ⟨si, rfl, si0, si1, d5, k5⟩
  repeat walk_at "mi"
  have hl : si.toNat < [D.int 1, .int 3, .int 7, .int 11, .int 17, .int 25].length := by show si.toNat < 6; omega
  refine w_ixN (atI_in si0 hl) ?_
  obtain ⟨stride, hs, hs0, hs1⟩ : ∃ x : Int, [D.int 1, .int 3, .int 7, .int 11, .int 17, .int 25][si.toNat] = .int x ∧ 0 < x ∧ x ≤ 25 := by
    have := List.getElem_mem hl
    simp only [List.mem_cons, List.not_mem_nil, or_false] at this
    rcases this with e | e | e | e | e | e <;> exact ⟨_, e, by decide, by decide⟩
  rw [hs]
  repeat walk_at "mi"
  refine ev_comp (fun i acc g => g = h5 ∧ ∃ ws : List Str, acc = ws.map .str ∧ ws.length = i ∧ ∀ w ∈ ws, Wd 1 w) ⟨rfl, [], rfl, rfl, fun _ z => by cases z⟩ (by decide +kernel) ?_ ?_
  · rintro i d acc g hd ⟨rfl, ws, rfl, e1, e2⟩
    obtain ⟨hi, rfl⟩ := rngL_get hd
    have hi : i < 8 := hi
    refine ⟨_, rfl, ?_⟩
    repeat walk_at "mi"
    refine w_ixS (x := letters) wl (by decide) (by omega) (by rw [ll]; omega) fun c _ wc => ?_
    repeat walk_at "mi"
    refine ⟨rfl, ws ++ [⟨#[c]⟩], by simp, by simp [e1], fun w hw => ?_⟩
    rcases List.mem_append.mp hw with hw | hw
    · exact e2 w hw
    · rw [List.mem_singleton.mp hw]; exact wc
  rintro acc g ⟨rfl, ws, rfl, e1, e2⟩
  repeat walk_at "mi"
  have e1 : ws.length = 8 := e1
  refine w_join e2 (by rw [e1]; decide) fun wb => ?_
  rw [e1] at wb
  generalize Str.join "" ws = base at wb
  repeat walk_at "mi"
  refine ev_for (fun i e g' => g' = g ∧ ∃ (ws : List Str) (s10 s11 : Slot), e = [.val (.ref m), .val (.int many), .val (.str "abcdefghijklmnopqrstuvwxyz"), .val (.int start), .val (.int way), .val (.int (1 + siz)), .val (.int pl), .val (.int stride), .val (.str base), .own (ws.map .str), s10, s11, .un, .un, .un] ∧ ws.length = i ∧ ∀ w ∈ ws, Wd 20 w) ⟨rfl, [], _, _, rfl, rfl, fun _ z => by cases z⟩ ?_ ?_
  · rintro i d e g' hd ⟨rfl, ws, s10, s11, rfl, e3, e4⟩
    obtain ⟨hi, rfl⟩ := rngL_get hd
    refine ⟨_, rfl, ?_⟩
    repeat walk_at "mi"
    refine w_ixS (x := letters) wl (by decide) (by omega) (by rw [ll]; omega) fun c _ wc => ?_
    repeat walk_at "mi"
    have fin : ∀ {w : Str}, Wd 17 w → w.length ≤ 17 → (ws ++ [w]).length = i + 1 ∧ ∀ w' ∈ ws ++ [w], Wd 20 w' := by
      intro w hw _
      refine ⟨by simp [e3], fun w' hw' => ?_⟩
      rcases List.mem_append.mp hw' with h' | h'
      · exact e4 w' h'
      · rw [List.mem_singleton.mp h']; exact hw.le (by decide)
    have es : ∀ w : Str, ws.map D.str ++ [.str w] = (ws ++ [w]).map D.str := by intro w; simp
    have hlen : (ws.map D.str).length < sizeLine := by rw [List.length_map, e3]; exact Nat.lt_of_lt_of_le (show i < 1000 by omega) (by decide)
    refine ev_br (fun hw => ?_) (fun hw => ?_)
    · repeat walk_at "mi"
      refine w_slS wb (by decide) fun w1 => ?_
      repeat walk_at "mi"
      refine w_addS wc w1 (by decide) fun w2 => ?_
      repeat walk_at "mi"
      refine v_appR hlen ?_
      rw [es]
      repeat walk_at "mi"
      exact ⟨rfl, _, _, _, rfl, (fin (w2.le (by decide)) (w2.le (j := 17) (by decide)).1).1, (fin (w2.le (by decide)) (w2.le (j := 17) (by decide)).1).2⟩
    · repeat walk_at "mi"
      refine w_slS wb (by decide) fun w1 => ?_
      repeat walk_at "mi"
      refine w_addS w1 wc (by decide) fun w2 => ?_
      repeat walk_at "mi"
      refine w_slS wb (by decide) fun w3 => ?_
      repeat walk_at "mi"
      refine w_addS w2 w3 (by decide) fun w4 => ?_
      repeat walk_at "mi"
      refine v_appR hlen ?_
      rw [es]
      repeat walk_at "mi"
      exact ⟨rfl, _, _, _, rfl, (fin (w4.le (by decide)) (w4.le (j := 17) (by decide)).1).1, (fin (w4.le (by decide)) (w4.le (j := 17) (by decide)).1).2⟩
  rintro e g' ⟨rfl, ws, s10, s11, rfl, e3, e4⟩
  rw [rngL_length] at e3
  repeat walk_at "mi"
  refine w_addLN (by decide) ?_
  repeat walk_at "mi"
  refine w_of (a := ws.map .str) rfl ?_
  have hl2 : ws.length ≤ 1000 := by omega
  refine ev_comp (fun i acc g => g = g' ∧ ∃ vs : List Str, acc = vs.map .str ∧ vs.length = i ∧ ∀ w ∈ vs, Wd 40 w) ⟨rfl, [], rfl, rfl, fun _ z => by cases z⟩ (by rw [List.length_nil, Nat.zero_add, List.length_map]; exact Nat.le_trans hl2 (by decide)) ?_ ?_
  · rintro i d acc g hd ⟨rfl, vs, rfl, e5, e6⟩
    rw [List.getElem?_map] at hd
    obtain ⟨w, hw, rfl⟩ := Option.map_eq_some_iff.mp hd
    have ww := e4 w (List.mem_of_getElem? hw)
    refine ⟨_, rfl, ?_⟩
    repeat walk_at "mi"
    have fin : ∀ {w : Str}, Wd 40 w → (vs ++ [w]).length = i + 1 ∧ ∀ w' ∈ vs ++ [w], Wd 40 w' := by
      intro w hw
      refine ⟨by simp [e5], fun w' hw' => ?_⟩
      rcases List.mem_append.mp hw' with h' | h'
      · exact e6 w' h'
      · rw [List.mem_singleton.mp h']; exact hw
    have es : ∀ w : Str, vs.map D.str ++ [.str w] = (vs ++ [w]).map D.str := by intro w; simp
    refine w_notinS (ws := barred) rfl (fun _ z => by cases z) ?_
    refine ev_br (fun hq => ?_) (fun hq => ?_)
    · repeat walk_at "mi"
      exact ⟨rfl, _, es _, (fin (ww.le (by decide))).1, (fin (ww.le (by decide))).2⟩
    · repeat walk_at "mi"
      refine w_slS ww (by decide) fun w1 => ?_
      repeat walk_at "mi"
      refine w_addS (a := 2) (Wd.of (by decide)) w1 (by decide) fun w2 => ?_
      repeat walk_at "mi"
      refine w_addS w2 (b := 1) (Wd.of (by decide)) (by decide) fun w3 => ?_
      repeat walk_at "mi"
      exact ⟨rfl, _, es _, (fin (w3.le (by decide))).1, (fin (w3.le (by decide))).2⟩
  rintro acc g ⟨rfl, vs, rfl, e5, e6⟩
  repeat walk_at "mi"
  refine ⟨vs, rfl, by rw [e5, List.length_map, e3], e6, d5.mono (by omega), ((((k1.trans k2).trans k3).trans k4).trans k5)⟩
end
end Mi
/-! Mi15: plain data: equality, tuples, places, parts. -/
namespace Mi
open PySem PySem.Spec PyProof.Rows L2
noncomputable instance decD : DecidableEq D := fun _ _ => Classical.propDecidable _
/-- a great number, never unfolded -/
@[irreducible] def big : Nat := 1000000
theorem big_eq : big = 1000000 := by unfold big; rfl
theorem le_big {a : Nat} (h : a < 1000000) : a ≤ big := by rw [big_eq]; omega
/-- plain data, at most so deep: no truths, no lists of the heap -/
def Pl : Nat → D → Prop
  | _, .non => True
  | _, .int _ => True
  | _, .str s => PyData.strOk s = true
  | k + 1, .tup l => ∀ x ∈ l, Pl k x
  | k + 1, .lst l => ∀ x ∈ l, Pl k x
  | _, _ => False
theorem Pl.non {k : Nat} : Pl k .non := by cases k <;> exact True.intro
theorem Pl.int {k : Nat} {i : Int} : Pl k (.int i) := by cases k <;> exact True.intro
theorem Pl.str {k : Nat} {s : Str} (h : PyData.strOk s = true) : Pl k (.str s) := by cases k <;> exact h
theorem Pl.tup {k : Nat} {l : List D} (h : ∀ x ∈ l, Pl k x) : Pl (k + 1) (.tup l) := h
theorem Pl.lst {k : Nat} {l : List D} (h : ∀ x ∈ l, Pl k x) : Pl (k + 1) (.lst l) := h
theorem Pl.le : ∀ {k j : Nat} {d : D}, Pl k d → k ≤ j → Pl j d
  | k, j, .non, _, _ => .non
  | k, j, .int _, _, _ => .int
  | 0, j, .str _, h, _ => .str h
  | k + 1, j, .str _, h, _ => .str h
  | 0, j, .tup l, h, _ => h.elim
  | 0, j, .lst l, h, _ => h.elim
  | k + 1, 0, .tup l, _, hj => absurd hj (by omega)
  | k + 1, 0, .lst l, _, hj => absurd hj (by omega)
  | k + 1, j + 1, .tup l, h, hj => Pl.tup fun x hx => Pl.le (h x hx) (by omega)
  | k + 1, j + 1, .lst l, h, hj => Pl.lst fun x hx => Pl.le (h x hx) (by omega)
  | 0, j, .bl _, h, _ => h.elim
  | k + 1, j, .bl _, h, _ => h.elim
  | 0, j, .arg _, h, _ => h.elim
  | k + 1, j, .arg _, h, _ => h.elim
  | 0, j, .ref _, h, _ => h.elim
  | k + 1, j, .ref _, h, _ => h.elim
theorem pyAll_pl {k : Nat} (ih : ∀ d, Pl k d → ∃ p, d.py = some p ∧ p.canLay0 = true ∧ p.depth ≤ k) : ∀ {l : List D}, (∀ x ∈ l, Pl k x) → ∃ ps, pyAll l = some ps ∧ PyData.canLayAll0 ps = true ∧ PyData.depthAll ps ≤ k
  | [], _ => ⟨[], by simp [pyAll], rfl, Nat.zero_le _⟩
  | x :: l, h => by
    obtain ⟨p, e1, c1, d1⟩ := ih x (h x List.mem_cons_self)
    obtain ⟨ps, e2, c2, d2⟩ := pyAll_pl ih (l := l) fun y hy => h y (List.mem_cons_of_mem _ hy)
    refine ⟨p :: ps, by simp only [pyAll, e1, e2], ?_, ?_⟩
    · simp only [PyData.canLayAll0, c1, c2, Bool.and_self]
    · simp only [PyData.depthAll]; omega
theorem py_pl : ∀ (k : Nat) (d : D), Pl k d → ∃ p, d.py = some p ∧ p.canLay0 = true ∧ p.depth ≤ k
  | k, .non, _ => ⟨.none, by simp [D.py], by simp [PyData.canLay0], by simp [PyData.depth]⟩
  | k, .int i, _ => ⟨.int i, by simp [D.py], by simp [PyData.canLay0], by simp [PyData.depth]⟩
  | k, .str s, h => by
    have h : PyData.strOk s = true := by cases k <;> exact h
    exact ⟨.str s, by simp [D.py], by simp [PyData.canLay0, h], by simp [PyData.depth]⟩
  | k + 1, .tup l, h => by
    obtain ⟨ps, e, c, d⟩ := pyAll_pl (py_pl k) h
    exact ⟨.tuple ps, by simp [D.py, e], by simpa [PyData.canLay0] using c, by simp only [PyData.depth]; omega⟩
  | k + 1, .lst l, h => by
    obtain ⟨ps, e, c, d⟩ := pyAll_pl (py_pl k) h
    exact ⟨.list ps, by simp [D.py, e], by simpa [PyData.canLay0] using c, by simp only [PyData.depth]; omega⟩
  | 0, .tup l, h => h.elim
  | 0, .lst l, h => h.elim
  | 0, .bl _, h => h.elim
  | k + 1, .bl _, h => h.elim
  | 0, .arg _, h => h.elim
  | k + 1, .arg _, h => h.elim
  | 0, .ref _, h => h.elim
  | k + 1, .ref _, h => h.elim
theorem eqvAll_pl {k : Nat} (ih : ∀ x y p q, Pl k x → Pl k y → x.py = some p → y.py = some q → PyData.eqv p q = decide (x = y)) :
    ∀ {l m : List D} {ps qs : List PyData}, (∀ x ∈ l, Pl k x) → (∀ x ∈ m, Pl k x) → pyAll l = some ps → pyAll m = some qs → PyData.eqvAll ps qs = decide (l = m)
  | [], [], ps, qs, _, _, e1, e2 => by simp [pyAll] at e1 e2; subst e1; subst e2; simp [PyData.eqvAll]
  | [], y :: m, ps, qs, _, hm, e1, e2 => by
    simp only [pyAll] at e1 e2
    cases a1 : y.py <;> cases a2 : pyAll m <;> simp [a1, a2] at e2
    simp at e1; subst e1; subst e2; simp [PyData.eqvAll]
  | x :: l, [], ps, qs, hl, _, e1, e2 => by
    simp only [pyAll] at e1 e2
    cases a1 : x.py <;> cases a2 : pyAll l <;> simp [a1, a2] at e1
    simp at e2; subst e1; subst e2; simp [PyData.eqvAll]
  | x :: l, y :: m, ps, qs, hl, hm, e1, e2 => by
    simp only [pyAll] at e1 e2
    cases a1 : x.py <;> cases a2 : pyAll l <;> simp [a1, a2] at e1
    cases b1 : y.py <;> cases b2 : pyAll m <;> simp [b1, b2] at e2
    subst e1; subst e2
    rw [PyData.eqvAll, ih x y _ _ (hl x List.mem_cons_self) (hm y List.mem_cons_self) a1 b1,
      eqvAll_pl ih (fun z hz => hl z (List.mem_cons_of_mem _ hz)) (fun z hz => hm z (List.mem_cons_of_mem _ hz)) a2 b2]
    by_cases h1 : x = y <;> by_cases h2 : l = m <;> simp [h1, h2]
theorem py_tup {l : List D} {p : PyData} (e : (D.tup l).py = some p) : ∃ ps, pyAll l = some ps ∧ p = .tuple ps := by
  simp only [D.py] at e
  cases a : pyAll l <;> simp [a] at e
  exact ⟨_, rfl, e.symm⟩
theorem py_lst {l : List D} {p : PyData} (e : (D.lst l).py = some p) : ∃ ps, pyAll l = some ps ∧ p = .list ps := by
  simp only [D.py] at e
  cases a : pyAll l <;> simp [a] at e
  exact ⟨_, rfl, e.symm⟩
theorem py_non {p : PyData} (e : D.non.py = some p) : p = .none := by simp only [D.py] at e; cases e; rfl
theorem py_int {i : Int} {p : PyData} (e : (D.int i).py = some p) : p = .int i := by simp only [D.py] at e; cases e; rfl
theorem py_str {i : Str} {p : PyData} (e : (D.str i).py = some p) : p = .str i := by simp only [D.py] at e; cases e; rfl
theorem eqv_pl : ∀ (k : Nat) (x y : D) (p q : PyData), Pl k x → Pl k y → x.py = some p → y.py = some q → PyData.eqv p q = decide (x = y) := by
  intro k
  induction k with
  | zero =>
    intro x y p q hx hy e1 e2
    cases x <;> cases y <;> first | exact hx.elim | exact hy.elim | skip
    all_goals
      first | rw [py_non e1] | rw [py_int e1] | rw [py_str e1]
      first | rw [py_non e2] | rw [py_int e2] | rw [py_str e2]
      simp [PyData.eqv]
      try rfl
  | succ k ih =>
    intro x y p q hx hy e1 e2
    cases x <;> cases y <;> first | exact hx.elim | exact hy.elim | skip
    all_goals
      first | rw [py_non e1] | rw [py_int e1] | rw [py_str e1] | (obtain ⟨ps, a1, rfl⟩ := py_tup e1) | (obtain ⟨ps, a1, rfl⟩ := py_lst e1)
      first | rw [py_non e2] | rw [py_int e2] | rw [py_str e2] | (obtain ⟨qs, a2, rfl⟩ := py_tup e2) | (obtain ⟨qs, a2, rfl⟩ := py_lst e2)
      first
        | (rw [PyData.eqv, eqvAll_pl ih hx hy (by assumption) (by assumption)]; simp)
        | (simp [PyData.eqv]; try rfl)
/-- an answer as data -/
def R.d : R → D
  | .dat d => d
  | .new l => .lst l
  | .bor l => .lst l
theorem pyH_d {h : Hh} {x : R} {k : Nat} (hx : Pl k x.d) : x.pyH h = x.d.py := by
  cases x with
  | dat d =>
    cases d with
    | ref n => cases k <;> exact hx.elim
    | _ => rfl
  | new l => simp only [R.pyH, R.py, R.d, D.py]
  | bor l => simp only [R.pyH, R.py, R.d, D.py]
theorem eqF_gen {h : Hh} {x y : R} (hx : Pl 60 x.d) (hy : Pl 60 y.d) : (match x.pyH h, y.pyH h with
    | some a, some b => if SeqAt.shaped a && SeqAt.shaped b then some (PyData.eqv a b) else none
    | _, _ => none) = some (decide (x.d = y.d)) := by
  obtain ⟨p, e1, c1, d1⟩ := py_pl 60 x.d hx
  obtain ⟨q, e2, c2, d2⟩ := py_pl 60 y.d hy
  rw [pyH_d hx, pyH_d hy, e1, e2]
  show (if (SeqAt.shaped p && SeqAt.shaped q) = true then some (PyData.eqv p q) else none) = _
  rw [if_pos (by simp only [SeqAt.shaped, c1, c2, Bool.true_and, Bool.and_eq_true, decide_eq_true_eq]; omega), eqv_pl 60 x.d y.d p q hx hy e1 e2]
theorem eqF_pl {h : Hh} {x y : R} (hx : Pl 60 x.d) (hy : Pl 60 y.d) : eqF h x y = some (decide (x.d = y.d)) := by
  unfold eqF
  split
  · rename_i a b
    simp [R.d]
  · exact eqF_gen hx hy
theorem eqF_str {h : Hh} {a b : Str} : eqF h (.dat (.str a)) (.dat (.str b)) = some (decide (a = b)) := rfl
theorem negN {k : Nat} : -(2 ^ 63) ≤ ((k : Nat) : Int) := Int.le_trans (by decide) (Int.natCast_nonneg k)
theorem mulTN {h : Hh} {a : List D} {k : Nat} (h1 : k ≤ 1000000) (z : a.length * k ≤ 1000000) : binF h .mul (.dat (.tup a)) (.dat (.int ((k : Nat) : Int))) = some (.dat (.tup (List.replicate k a).flatten)) := by
  have e : binF h .mul (.dat (.tup a)) (.dat (.int ((k : Nat) : Int))) = (if -(2 ^ 63) ≤ ((k : Nat) : Int) ∧ ((k : Nat) : Int) < 2 ^ 63 ∧ a.length * ((k : Nat) : Int).toNat ≤ 1000000 then some (.dat (.tup (List.replicate ((k : Nat) : Int).toNat a).flatten)) else none) := rfl
  rw [e]
  have e1 : ((k : Nat) : Int) < 2 ^ 63 := Int.lt_of_lt_of_le (Int.ofNat_lt.mpr (Nat.lt_succ_of_le h1)) (by decide)
  rw [Int.toNat_natCast, if_pos ⟨negN, e1, z⟩]
section
variable {h : Hh} {Q : R → Hh → Prop} {QL : List D → Hh → Prop}
theorem w_eqP {x y : R} (hx : Pl 60 x.d) (hy : Pl 60 y.d) (p : Q (.dat (.bl (decide (x.d = y.d)))) h) : ev (ofR h (cmpF h .eq x y) fun b => R.dat (.bl b)) Q := w_ofR (eqF_pl hx hy) p
theorem w_neP {x y : R} (hx : Pl 60 x.d) (hy : Pl 60 y.d) (p : Q (.dat (.bl (!decide (x.d = y.d)))) h) : ev (ofR h (cmpF h .ne x y) fun b => R.dat (.bl b)) Q := by
  refine w_ofR (a := !decide (x.d = y.d)) ?_ p
  show (eqF h x y).map (!·) = _
  rw [eqF_pl hx hy]; rfl
theorem w_eqS {a b : Str} (p : Q (.dat (.bl (decide (a = b)))) h) : ev (ofR h (cmpF h .eq (.dat (.str a)) (.dat (.str b))) fun b => R.dat (.bl b)) Q := w_ofR (a := decide (a = b)) rfl p
theorem w_neSt {a b : Str} (p : Q (.dat (.bl (!decide (a = b)))) h) : ev (ofR h (cmpF h .ne (.dat (.str a)) (.dat (.str b))) fun b => R.dat (.bl b)) Q := w_ofR (a := !decide (a = b)) rfl p
theorem w_neI {i j : Int} (p : Q (.dat (.bl (!decide (i = j)))) h) : ev (ofR h (cmpF h .ne (.dat (.int i)) (.dat (.int j))) fun b => R.dat (.bl b)) Q := by
  refine w_neP (x := .dat (.int i)) (y := .dat (.int j)) .int .int ?_
  simpa [R.d] using p
/-! tuples -/
theorem w_addT {a b : List D} (z : a.length + b.length ≤ big) (p : Q (.dat (.tup (a ++ b))) h) : ev (Res.of h (binF h .add (.dat (.tup a)) (.dat (.tup b)))) Q := by
  refine w_of (a := .dat (.tup (a ++ b))) ?_ p
  show (if a.length + b.length ≤ sizeLine then _ else _) = _
  rw [if_pos (by rw [sizeLine_eq]; rw [big_eq] at z; omega)]
theorem w_mulT {a : List D} {k : Int} (h1 : k < 2 ^ 63) (h2 : -(2 ^ 63) ≤ k) (z : a.length * k.toNat ≤ 1000000) (p : Q (.dat (.tup (List.replicate k.toNat a).flatten)) h) : ev (Res.of h (binF h .mul (.dat (.tup a)) (.dat (.int k)))) Q := by
  refine w_of (a := .dat (.tup (List.replicate k.toNat a).flatten)) ?_ p
  show (if -(2 ^ 63) ≤ k ∧ k < 2 ^ 63 ∧ a.length * k.toNat ≤ 1000000 then _ else _) = _
  rw [if_pos ⟨h2, h1, z⟩]
theorem w_mulTN {a : List D} {k : Nat} (h1 : k ≤ big) (z : a.length * k ≤ big) (p : Q (.dat (.tup (List.replicate k a).flatten)) h) : ev (Res.of h (binF h .mul (.dat (.tup a)) (.dat (.int ((k : Nat) : Int))))) Q := by
  rw [mulTN (by rw [← big_eq]; exact h1) (by rw [← big_eq]; exact z)]
  exact p
theorem w_lenT {l : List D} (p : Q (.dat (.int l.length)) h) : ev (Res.of h (bltF h .len [.tup l])) Q := w_of rfl p
theorem w_lenLs {l : List D} (p : Q (.dat (.int l.length)) h) : ev (Res.of h (bltF h .len [.lst l])) Q := w_of rfl p
theorem w_ixT {l : List D} {i : Int} {d : D} (e : atI l i = some d) (p : Q (.dat d) h) : ev (ofR h (ixF h (.dat (.tup l)) (.dat (.int i))) .dat) Q := w_ofR e p
theorem w_slT {l : List D} {lo hi : Option Int} (p : Q (.dat (.tup (cutD l lo hi))) h) : ev (Res.of h (slF h lo hi (.dat (.tup l)))) Q := w_of rfl p
theorem w_slL {l : List D} {lo hi : Option Int} (p : Q (.new (cutD l lo hi)) h) : ev (Res.of h (slF h lo hi (.dat (.lst l)))) Q := w_of rfl p
theorem w_tupN {l : List D} (p : Q (.dat (.tup l)) h) : ev (Res.of h (bltF h .toTuple [.lst l])) Q := w_of rfl p
theorem w_seqT {l : List D} (p : QL l h) : ev (Res.of h (itF (.dat (.tup l)))) QL := w_of rfl p
theorem w_seqL {l : List D} (p : QL l h) : ev (Res.of h (itF (.dat (.lst l)))) QL := w_of rfl p
theorem w_seqN {l : List D} (p : QL l h) : ev (Res.of h (itF (.new l))) QL := w_of rfl p
theorem w_isiC {t : Ty} {d : D} {b : Bool} (e : isiF h t d = some b) (p : Q (.dat (.bl b)) h) : ev (ofR h (isiF h t d) fun b => R.dat (.bl b)) Q := w_ofR e p
theorem w_intB {b : Bool} (p : Q (.dat (.int (if b then 1 else 0))) h) : ev (Res.of h (bltF h .toInt [.bl b])) Q := w_of rfl p
theorem w_intI {i : Int} (p : Q (.dat (.int i)) h) : ev (Res.of h (bltF h .toInt [.int i])) Q := w_of rfl p
end
theorem cut_to {l : List D} {i : Int} (h : 0 ≤ i) : cutD l none (some i) = l.take i.toNat := by
  unfold cutD HT.sIx
  dsimp only
  simp only [List.drop_zero]
  rw [if_neg (by omega)]
  by_cases hi : i.toNat ≤ l.length
  · congr 1; simp only [Nat.sub_zero]; omega
  · rw [List.take_of_length_le (by omega), List.take_of_length_le (by omega)]
theorem cut_from {l : List D} {i : Int} (h : 0 ≤ i) : cutD l (some i) none = l.drop i.toNat := by
  unfold cutD HT.sIx
  dsimp only
  rw [if_neg (by omega)]
  by_cases hi : i.toNat ≤ l.length
  · rw [show min i.toNat l.length = i.toNat by omega]
    rw [List.take_of_length_le (by rw [List.length_drop]; omega)]
  · rw [show min i.toNat l.length = l.length by omega]
    rw [List.drop_of_length_le (by omega), List.drop_of_length_le (by omega)]; simp
theorem cut_toN {l : List D} {m : Nat} : cutD l none (some ((m : Nat) : Int)) = l.take m := by rw [cut_to (Int.natCast_nonneg m), Int.toNat_natCast]
theorem cut_fromN {l : List D} {m : Nat} : cutD l (some ((m : Nat) : Int)) none = l.drop m := by rw [cut_from (Int.natCast_nonneg m), Int.toNat_natCast]
theorem cut_mid {l : List D} {i j : Int} (h : 0 ≤ i) (hj : i ≤ j) : cutD l (some i) (some j) = (l.drop i.toNat).take (j.toNat - i.toNat) := by
  unfold cutD HT.sIx
  dsimp only
  rw [if_neg (by omega), if_neg (by omega)]
  by_cases hi : i.toNat ≤ l.length
  · rw [show min i.toNat l.length = i.toNat by omega]
    by_cases hj2 : j.toNat ≤ l.length
    · rw [show min j.toNat l.length = j.toNat by omega]
    · rw [List.take_of_length_le (by rw [List.length_drop]; omega), List.take_of_length_le (by rw [List.length_drop]; omega)]
  · rw [show min i.toNat l.length = l.length by omega]
    rw [List.drop_of_length_le (by omega), List.drop_of_length_le (by omega)]; simp
theorem cut_last {l : List D} : cutD l (some (-1)) none = l.drop (l.length - 1) := by
  unfold cutD HT.sIx
  dsimp only
  rw [if_pos (by omega)]
  rw [show ((-1 : Int) + (l.length : Nat)).toNat = l.length - 1 by omega]
  rw [List.take_of_length_le (by rw [List.length_drop]; omega)]
theorem cut_init {l : List D} : cutD l none (some (-1)) = l.dropLast := by
  unfold cutD HT.sIx
  dsimp only
  rw [if_pos (by omega)]
  rw [show ((-1 : Int) + (l.length : Nat)).toNat = l.length - 1 by omega]
  simp [List.dropLast_eq_take]
theorem atI_nat' {l : List D} {k : Nat} (h : k < l.length) : atI l (k : Int) = some l[k] := by
  have := atI_in (l := l) (i := (k : Int)) (by omega) (by simpa using h)
  simpa using this
theorem atI_last' {l : List D} (h : l ≠ []) : atI l (-1) = some (l.getLast h) := by
  have hl : 0 < l.length := List.length_pos_iff.mpr h
  have e : ixN l.length (-1) = some (l.length - 1) := by
    unfold ixN
    rw [if_neg (by omega), if_pos (by omega)]
    congr 1; omega
  unfold atI
  rw [e]
  show l[l.length - 1]? = _
  rw [List.getElem?_eq_getElem (by omega), List.getLast_eq_getElem]
section
variable {h : Hh} {Q : R → Hh → Prop}
theorem w_notT (p : Q (.dat (.bl false)) h) : ev (notR (.dat (.bl true)) h) Q := p
theorem w_notF (p : Q (.dat (.bl true)) h) : ev (notR (.dat (.bl false)) h) Q := p
theorem w_brd {α : Type} {c : Prop} [Decidable c] {a b : Res α} {QA : α → Hh → Prop} (e : c) (p : ev a QA) : ev (brR (.dat (.bl (decide c))) a b) QA := by rw [decide_eq_true e]; exact p
theorem w_brn {α : Type} {c : Prop} [Decidable c] {a b : Res α} {QA : α → Hh → Prop} (e : ¬ c) (p : ev b QA) : ev (brR (.dat (.bl (decide c))) a b) QA := by rw [decide_eq_false e]; exact p
theorem w_brp {α : Type} {c : Bool} {a b : Res α} {QA : α → Hh → Prop} (e : c = true) (p : ev a QA) : ev (brR (.dat (.bl c)) a b) QA := by rw [e]; exact p
theorem w_brq {α : Type} {c : Bool} {a b : Res α} {QA : α → Hh → Prop} (e : c = false) (p : ev b QA) : ev (brR (.dat (.bl c)) a b) QA := by rw [e]; exact p
theorem w_brnd {α : Type} {c : Prop} [Decidable c] {a b : Res α} {QA : α → Hh → Prop} (e : c) (p : ev b QA) : ev (brR (.dat (.bl (!decide c))) a b) QA := by rw [decide_eq_true e]; exact p
theorem w_brnn {α : Type} {c : Prop} [Decidable c] {a b : Res α} {QA : α → Hh → Prop} (e : ¬ c) (p : ev a QA) : ev (brR (.dat (.bl (!decide c))) a b) QA := by rw [decide_eq_false e]; exact p
theorem w_isi_int_non (p : Q (.dat (.bl false)) h) : ev (ofR h (isiF h .int (.non)) fun b => R.dat (.bl b)) Q := w_ofR (a := false) rfl p
theorem w_isi_int_bl {b : Bool} (p : Q (.dat (.bl true)) h) : ev (ofR h (isiF h .int (.bl b)) fun b => R.dat (.bl b)) Q := w_ofR (a := true) rfl p
theorem w_isi_int_int {i : Int} (p : Q (.dat (.bl true)) h) : ev (ofR h (isiF h .int (.int i)) fun b => R.dat (.bl b)) Q := w_ofR (a := true) rfl p
theorem w_isi_int_str {s : Str} (p : Q (.dat (.bl false)) h) : ev (ofR h (isiF h .int (.str s)) fun b => R.dat (.bl b)) Q := w_ofR (a := false) rfl p
theorem w_isi_int_tup {l : List D} (p : Q (.dat (.bl false)) h) : ev (ofR h (isiF h .int (.tup l)) fun b => R.dat (.bl b)) Q := w_ofR (a := false) rfl p
theorem w_isi_int_lst {l : List D} (p : Q (.dat (.bl false)) h) : ev (ofR h (isiF h .int (.lst l)) fun b => R.dat (.bl b)) Q := w_ofR (a := false) rfl p
theorem w_isi_bool_non (p : Q (.dat (.bl false)) h) : ev (ofR h (isiF h .bool (.non)) fun b => R.dat (.bl b)) Q := w_ofR (a := false) rfl p
theorem w_isi_bool_bl {b : Bool} (p : Q (.dat (.bl true)) h) : ev (ofR h (isiF h .bool (.bl b)) fun b => R.dat (.bl b)) Q := w_ofR (a := true) rfl p
theorem w_isi_bool_int {i : Int} (p : Q (.dat (.bl false)) h) : ev (ofR h (isiF h .bool (.int i)) fun b => R.dat (.bl b)) Q := w_ofR (a := false) rfl p
theorem w_isi_bool_str {s : Str} (p : Q (.dat (.bl false)) h) : ev (ofR h (isiF h .bool (.str s)) fun b => R.dat (.bl b)) Q := w_ofR (a := false) rfl p
theorem w_isi_bool_tup {l : List D} (p : Q (.dat (.bl false)) h) : ev (ofR h (isiF h .bool (.tup l)) fun b => R.dat (.bl b)) Q := w_ofR (a := false) rfl p
theorem w_isi_bool_lst {l : List D} (p : Q (.dat (.bl false)) h) : ev (ofR h (isiF h .bool (.lst l)) fun b => R.dat (.bl b)) Q := w_ofR (a := false) rfl p
theorem w_isi_str_non (p : Q (.dat (.bl false)) h) : ev (ofR h (isiF h .str (.non)) fun b => R.dat (.bl b)) Q := w_ofR (a := false) rfl p
theorem w_isi_str_bl {b : Bool} (p : Q (.dat (.bl false)) h) : ev (ofR h (isiF h .str (.bl b)) fun b => R.dat (.bl b)) Q := w_ofR (a := false) rfl p
theorem w_isi_str_int {i : Int} (p : Q (.dat (.bl false)) h) : ev (ofR h (isiF h .str (.int i)) fun b => R.dat (.bl b)) Q := w_ofR (a := false) rfl p
theorem w_isi_str_str {s : Str} (p : Q (.dat (.bl true)) h) : ev (ofR h (isiF h .str (.str s)) fun b => R.dat (.bl b)) Q := w_ofR (a := true) rfl p
theorem w_isi_str_tup {l : List D} (p : Q (.dat (.bl false)) h) : ev (ofR h (isiF h .str (.tup l)) fun b => R.dat (.bl b)) Q := w_ofR (a := false) rfl p
theorem w_isi_str_lst {l : List D} (p : Q (.dat (.bl false)) h) : ev (ofR h (isiF h .str (.lst l)) fun b => R.dat (.bl b)) Q := w_ofR (a := false) rfl p
theorem w_isi_tuple_non (p : Q (.dat (.bl false)) h) : ev (ofR h (isiF h .tuple (.non)) fun b => R.dat (.bl b)) Q := w_ofR (a := false) rfl p
theorem w_isi_tuple_bl {b : Bool} (p : Q (.dat (.bl false)) h) : ev (ofR h (isiF h .tuple (.bl b)) fun b => R.dat (.bl b)) Q := w_ofR (a := false) rfl p
theorem w_isi_tuple_int {i : Int} (p : Q (.dat (.bl false)) h) : ev (ofR h (isiF h .tuple (.int i)) fun b => R.dat (.bl b)) Q := w_ofR (a := false) rfl p
theorem w_isi_tuple_str {s : Str} (p : Q (.dat (.bl false)) h) : ev (ofR h (isiF h .tuple (.str s)) fun b => R.dat (.bl b)) Q := w_ofR (a := false) rfl p
theorem w_isi_tuple_tup {l : List D} (p : Q (.dat (.bl true)) h) : ev (ofR h (isiF h .tuple (.tup l)) fun b => R.dat (.bl b)) Q := w_ofR (a := true) rfl p
theorem w_isi_tuple_lst {l : List D} (p : Q (.dat (.bl false)) h) : ev (ofR h (isiF h .tuple (.lst l)) fun b => R.dat (.bl b)) Q := w_ofR (a := false) rfl p
theorem w_isi_list_non (p : Q (.dat (.bl false)) h) : ev (ofR h (isiF h .list (.non)) fun b => R.dat (.bl b)) Q := w_ofR (a := false) rfl p
theorem w_isi_list_bl {b : Bool} (p : Q (.dat (.bl false)) h) : ev (ofR h (isiF h .list (.bl b)) fun b => R.dat (.bl b)) Q := w_ofR (a := false) rfl p
theorem w_isi_list_int {i : Int} (p : Q (.dat (.bl false)) h) : ev (ofR h (isiF h .list (.int i)) fun b => R.dat (.bl b)) Q := w_ofR (a := false) rfl p
theorem w_isi_list_str {s : Str} (p : Q (.dat (.bl false)) h) : ev (ofR h (isiF h .list (.str s)) fun b => R.dat (.bl b)) Q := w_ofR (a := false) rfl p
theorem w_isi_list_tup {l : List D} (p : Q (.dat (.bl false)) h) : ev (ofR h (isiF h .list (.tup l)) fun b => R.dat (.bl b)) Q := w_ofR (a := false) rfl p
theorem w_isi_list_lst {l : List D} (p : Q (.dat (.bl true)) h) : ev (ofR h (isiF h .list (.lst l)) fun b => R.dat (.bl b)) Q := w_ofR (a := true) rfl p
end
end Mi
/-! Mi22: repr of data. -/
namespace Mi
open PySem PySem.Spec PyProof.Rows L2
/-- the text of data -/
def rp (d : D) : Str := match d.py with
  | some p => p.shown
  | none => ""
def rokP (p : PyData) : Bool := p.showable && !p.hasDict && decide (p.shown.length ≤ sizeLine) && decide (p.depth ≤ 64)
/-- its text can be told -/
def Rok (d : D) : Prop := ∃ p, d.py = some p ∧ rokP p = true
section
variable {h : Hh} {Q : R → Hh → Prop}
theorem w_reprD {d : D} (ok : Rok d) (p : Q (.dat (.str (rp d))) h) : ev (Res.of h (bltF h .repr [d])) Q := by
  obtain ⟨y, e, c⟩ := ok
  have e2 : (R.dat d).pyH h = some y := by
    cases d with
    | ref n => simp only [D.py] at e; cases e
    | _ => exact e
  refine w_of (a := .dat (.str y.shown)) ?_ (by unfold rp at p; rw [e] at p; exact p)
  show reprF h [d] = _
  simp only [reprF, e2]
  exact if_pos c
theorem w_reprB {l : List D} (ok : Rok (.lst l)) (p : Q (.dat (.str (rp (.lst l)))) h) : ev (Res.of h (bltR h .repr (.bor l))) Q := by
  obtain ⟨y, e, c⟩ := ok
  have e2 : (R.bor l).pyH h = some y := by
    simp only [D.py] at e
    exact e
  refine w_of (a := .dat (.str y.shown)) ?_ (by unfold rp at p; rw [e] at p; exact p)
  show reprB h (.bor l) = _
  simp only [reprB, e2]
  exact if_pos c
theorem w_reprBD {d : D} (ok : Rok d) (p : Q (.dat (.str (rp d))) h) : ev (Res.of h (bltR h .repr (.dat d))) Q := by
  obtain ⟨y, e, c⟩ := ok
  have e2 : (R.dat d).pyH h = some y := by
    cases d with
    | ref n => simp only [D.py] at e; cases e
    | _ => exact e
  refine w_of (a := .dat (.str y.shown)) ?_ (by unfold rp at p; rw [e] at p; exact p)
  show reprB h (.dat d) = _
  simp only [reprB, e2]
  exact if_pos c
end
theorem Rok.of {d : D} {p : PyData} (e : d.py = some p) (h1 : p.showable = true) (h2 : p.canLay0 = true) (h3 : p.intsShort 13 = true) (h4 : p.depth ≤ 64) (h5 : p.weight ≤ 2 ^ 20) : Rok d := by
  refine ⟨p, e, ?_⟩
  unfold rokP
  have l : p.shown.length ≤ sizeLine := PyData.shown_fits_of_layable0 (B := 13) (by decide) (by decide) (by show (p.canLay0 && decide (p.depth ≤ 64) && decide (p.weight ≤ 2 ^ 20)) = true; rw [h2, decide_eq_true h4, decide_eq_true h5]; rfl) h3
  rw [h1, PyData.hasDict_of_canLay p h2, decide_eq_true l, decide_eq_true h4]
  rfl
theorem log_small {i : Int} (h : i.natAbs < 10 ^ 12) : i.natAbs.log2 < 1920 := by
  by_cases z : i.natAbs = 0
  · rw [z]; decide
  · have := (Nat.log2_lt z (k := 40)).mpr (Nat.lt_trans h (by decide))
    omega
theorem Rok.non : Rok .non := Rok.of (p := .none) rfl rfl rfl rfl (by decide) (by decide)
theorem Rok.bl {b : Bool} : Rok (.bl b) := Rok.of (p := .bool b) rfl rfl rfl rfl (Nat.zero_le _) (Nat.zero_le _)
theorem wt_int {i : Int} (h : i.natAbs < 10 ^ 12) : (PyData.int i).weight ≤ 41 := by
  simp only [PyData.weight]
  split
  · omega
  · by_cases z : i.natAbs = 0
    · rw [z]; decide
    · have := (Nat.log2_lt z (k := 40)).mpr (Nat.lt_trans h (by decide))
      omega
theorem Rok.int {i : Int} (h : i.natAbs < 10 ^ 12) : Rok (.int i) :=
  Rok.of (p := .int i) rfl (by simp only [PyData.showable, decide_eq_true_eq]; exact log_small h) rfl (by simp only [PyData.intsShort, decide_eq_true_eq]; exact PyData.shown_int_le h) (Nat.zero_le _) (Nat.le_trans (wt_int h) (by decide))
theorem strs_py : ∀ ws : List Str, pyAll (ws.map .str) = some (ws.map .str)
  | [] => by simp [pyAll]
  | x :: xs => by simp [pyAll, D.py, strs_py xs]
theorem strs_wt : ∀ ws : List Str, PyData.weightAll (ws.map .str) = (ws.map (·.length)).sum + ws.length
  | [] => rfl
  | x :: xs => by
    simp only [List.map_cons, PyData.weightAll, PyData.weight, strs_wt xs, List.sum_cons, List.length_cons]
    show x.length + 1 + _ = _
    omega
theorem strs_dep : ∀ ws : List Str, PyData.depthAll (ws.map .str) = 0
  | [] => rfl
  | x :: xs => by simp [PyData.depthAll, PyData.depth, strs_dep xs]
theorem strs_lay : ∀ {ws : List Str}, (∀ w ∈ ws, PyData.strOk w = true) → PyData.canLayAll0 (ws.map .str) = true
  | [], _ => rfl
  | x :: xs, h => by
    simp only [List.map_cons, PyData.canLayAll0, PyData.canLay0, Bool.and_eq_true]
    exact ⟨h x List.mem_cons_self, strs_lay fun w hw => h w (List.mem_cons_of_mem _ hw)⟩
theorem strs_show : ∀ ws : List Str, PyData.showableAll (ws.map .str) = true
  | [] => rfl
  | x :: xs => by simp only [List.map_cons, PyData.showableAll, PyData.showable, Bool.true_and, strs_show xs]
theorem Rok.strs {ws : List Str} (h : ∀ w ∈ ws, PyData.strOk w = true) (hz : (ws.map (·.length)).sum + ws.length ≤ 2 ^ 20) : Rok (.lst (ws.map .str)) := by
  refine Rok.of (p := .list (ws.map .str)) (by simp only [D.py, strs_py]; rfl) ?_ ?_ ?_ ?_ ?_
  · simp only [PyData.showable]; exact strs_show ws
  · simp only [PyData.canLay0]; exact strs_lay h
  · simp only [PyData.intsShort]; exact PyData.intsShortAll_strs 13 ws
  · simp only [PyData.depth, strs_dep]; decide
  · simp only [PyData.weight, strs_wt]; exact hz
end Mi
namespace Mi.K02
open PySem PySem.Spec PyProof.Rows L2
abbrev prog : Program := PySem.Challenge.pw_waysfold_k02_words_of_rows
def topS (i : Nat) : Stmt := prog.main.body.getD i (.Pass ⟨0, 0, 0, 0⟩)
def b_number_of : Ss := (.cons (.ifs (.or2 (.not1 (.isi (.var 0) .str)) (.or2 (.not1 (.chain .le .le (.con (.int 1)) (.blt .len (.cons (.var 0) .nil)) (.con (.int 2)))) (.not1 (.blt .all (.cons (.comp [1] (.nm 1) (.seq (.var 0)) (.con (.bl true)) (.cmp .isin (.var 1) (.glo "FIGURES"))) .nil))))) (.cons (.ret (.con .non)) .nil) .nil) (.cons (.ret (.ite (.and2 (.cmp .eq (.blt .len (.cons (.var 0) .nil)) (.con (.int 2))) (.cmp .eq (.ix (.var 0) (.con (.int 0))) (.con (.str "0")))) (.con .non) (.blt .toInt (.cons (.var 0) .nil)))) .nil))
def f_number_of : Fn := ⟨1, 2, b_number_of⟩

def b_words_of : Ss := (.cons (.ifs (.not1 (.isi (.var 0) .str)) (.cons (.ret (.con .non)) .nil) .nil) (.cons (.any 1 (.mth .split (.var 0) (.cons (.con (.str " ")) .nil))) (.cons (.ifs (.cmp .isin (.con (.str "")) (.var 1)) (.cons (.ret (.con .non)) .nil) (.cons (.retV 1) .nil)) .nil)))
def f_words_of : Fn := ⟨1, 2, b_words_of⟩

def b__law_mixed : Ss := (.cons (.asg 2 (.bin .add (.bin .add (.bin .mod (.bin .mul (.bin .mul (.var 0) (.bin .add (.con (.int 1)) (.bin .mul (.con (.int 2)) (.var 1)))) (.con (.int 48271))) (.con (.int 2147483647))) (.bin .mul (.bin .mul (.con (.int 7919)) (.var 1)) (.var 1))) (.bin .mul (.con (.int 104729)) (.var 1)))) (.cons (.ret (.bin .fdiv (.bin .mod (.bin .mul (.var 2) (.con (.int 69621))) (.con (.int 2147483629))) (.con (.int 7)))) .nil))
def f__law_mixed : Fn := ⟨2, 3, b__law_mixed⟩

def b__law_folded : Ss := (.cons (.own 1 (.comp [2] (.nm 2) (.rng1 (.con (.int 64))) (.con (.bl true)) (.bin .add (.con (.int 17)) (.var 2)))) (.cons (.for' (.tp [2, 3]) (.enum (.var 0)) (.cons (.setOwn 1 (.bin .mod (.var 2) (.con (.int 64))) (.bin .mod (.bin .add (.bin .mul (.ix (.var 1) (.bin .mod (.var 2) (.con (.int 64)))) (.con (.int 48271))) (.var 3)) (.con (.int 2147483647)))) .nil)) (.cons (.for' (.nm 2) (.rng2 (.con (.int 1)) (.con (.int 64))) (.cons (.setOwn 1 (.var 2) (.bin .mod (.bin .add (.ix (.var 1) (.var 2)) (.bin .mul (.ix (.var 1) (.bin .sub (.var 2) (.con (.int 1)))) (.con (.int 16807)))) (.con (.int 2147483647)))) .nil)) (.cons (.retV 1) .nil))))
def f__law_folded : Fn := ⟨1, 4, b__law_folded⟩

def b__law_draw : Ss := (.cons (.asg 2 (.dget (.var 0) (.con (.str "at")))) (.cons (.setD (.var 0) (.con (.str "at")) (.bin .add (.var 2) (.con (.int 1)))) (.cons (.ifs (.cmp .ne (.dget (.var 0) (.con (.str "left"))) (.lst .nil)) (.cons (.asg 3 (.bin .mod (.var 2) (.blt .len (.cons (.dget (.var 0) (.con (.str "left"))) .nil)))) (.cons (.asg 4 (.ix (.dget (.var 0) (.con (.str "left"))) (.var 3))) (.cons (.ifs (.cmp .gt (.var 4) (.con (.int 0))) (.cons (.setL (.dget (.var 0) (.con (.str "left"))) (.var 3) (.bin .fdiv (.var 4) (.var 1))) (.cons (.ret (.bin .mod (.var 4) (.var 1))) .nil)) .nil) .nil))) .nil) (.cons (.ret (.bin .mod (.call "_law_mixed" (.cons (.call "_law_mixed" (.cons (.bin .add (.ix (.dget (.var 0) (.con (.str "cells"))) (.bin .mod (.var 2) (.con (.int 64)))) (.bin .mul (.con (.int 31)) (.bin .fdiv (.var 2) (.con (.int 64))))) (.cons (.var 2) .nil))) (.cons (.bin .add (.var 2) (.con (.int 7))) .nil))) (.var 1))) .nil))))
def f__law_draw : Fn := ⟨2, 5, b__law_draw⟩

def b__law_begun : Ss := (.cons (.asg 1 (.dct [.inr "cells", .inr "left", .inr "at"] (.cons (.promo (.call "_law_folded" (.cons (.var 0) .nil))) (.cons (.promo (.lst .nil)) (.cons (.con (.int 0)) .nil))))) (.cons (.setD (.var 1) (.con (.str "left")) (.promo (.comp [2] (.nm 2) (.seq (.var 0)) (.con (.bl true)) (.ite (.cmp .ge (.var 2) (.bin .pow (.con (.int 10)) (.con (.int 18)))) (.var 2) (.con (.int 0)))))) (.cons (.ret (.var 1)) .nil)))
def f__law_begun : Fn := ⟨1, 3, b__law_begun⟩

def b__law_words : Ss := (.cons (.asg 2 (.con (.str "abcdefghijklmnopqrstuvwxyz"))) (.cons (.asgs [3, 4] (.tup (.cons (.call "_law_draw" (.cons (.var 0) (.cons (.con (.int 26)) .nil))) (.cons (.call "_law_draw" (.cons (.var 0) (.cons (.con (.int 4)) .nil))) .nil)))) (.cons (.asg 5 (.bin .add (.con (.int 1)) (.call "_law_draw" (.cons (.var 0) (.cons (.con (.int 6)) .nil))))) (.cons (.asg 6 (.call "_law_draw" (.cons (.var 0) (.cons (.var 5) .nil)))) (.cons (.asg 7 (.ix (.lst (.cons (.con (.int 1)) (.cons (.con (.int 3)) (.cons (.con (.int 7)) (.cons (.con (.int 11)) (.cons (.con (.int 17)) (.cons (.con (.int 25)) .nil))))))) (.call "_law_draw" (.cons (.var 0) (.cons (.con (.int 6)) .nil))))) (.cons (.asg 8 (.mth .join (.con (.str "")) (.cons (.comp [13] (.nm 13) (.rng1 (.con (.int 8))) (.con (.bl true)) (.ix (.var 2) (.bin .mod (.bin .add (.var 3) (.bin .mul (.con (.int 5)) (.var 13))) (.con (.int 26))))) .nil))) (.cons (.own 9 (.lst .nil)) (.cons (.for' (.nm 10) (.rng1 (.var 1)) (.cons (.asg 11 (.ix (.var 2) (.bin .mod (.bin .add (.var 3) (.bin .mul (.var 7) (.var 10))) (.con (.int 26))))) (.cons (.app 9 (.ite (.cmp .eq (.var 4) (.con (.int 3))) (.bin .add (.var 11) (.sl (.var 8) .no (.part (.bin .mod (.bin .mul (.var 10) (.var 7)) (.con (.int 6)))))) (.bin .add (.bin .add (.sl (.var 8) .no (.part (.var 6))) (.var 11)) (.sl (.var 8) (.part (.bin .add (.var 6) (.con (.int 1)))) (.part (.var 5)))))) .nil))) (.cons (.asg 12 (.lst (.cons (.con (.str "any")) (.cons (.con (.str "is")) (.cons (.con (.str "name")) (.cons (.con (.str "both")) (.cons (.con (.str "either")) (.cons (.con (.str "not")) (.cons (.con (.str "first")) (.cons (.con (.str "row")) (.cons (.con (.str "lot")) (.cons (.con (.str "turned")) (.cons (.con (.str "all")) (.cons (.con (.str "use")) (.cons (.con (.str "hole")) .nil))))))))))))))) (.cons (.asg 12 (.bin .add (.var 12) (.lst (.cons (.con (.str "one")) (.cons (.con (.str "stretch")) (.cons (.con (.str "rest")) (.cons (.con (.str "rule")) (.cons (.con (.str "end")) .nil)))))))) (.cons (.frz 9) (.cons (.ret (.comp [14] (.nm 14) (.seq (.var 9)) (.con (.bl true)) (.ite (.cmp .notin (.var 14) (.var 12)) (.var 14) (.bin .add (.bin .add (.con (.str "zz")) (.sl (.var 14) .no (.part (.con (.int 1))))) (.con (.str "z")))))) .nil))))))))))))
def f__law_words : Fn := ⟨2, 15, b__law_words⟩

def b__law_parted : Ss := (.cons (.ifs (.not1 (.isi (.var 0) .str)) (.cons (.ret (.con .non)) .nil) .nil) (.cons (.par2 1 2 (.lst .nil) (.con (.str ""))) (.cons (.for' (.nm 3) (.seq (.bin .add (.var 0) (.con (.str " ")))) (.cons (.ifs (.cmp .eq (.var 3) (.con (.str " "))) (.cons (.app 1 (.var 2)) .nil) .nil) (.cons (.asg 2 (.ite (.cmp .eq (.var 3) (.con (.str " "))) (.con (.str "")) (.bin .add (.var 2) (.var 3)))) .nil))) (.cons (.frz 1) (.cons (.ret (.ite (.cmp .ne (.comp [4] (.nm 4) (.seq (.var 1)) (.cmp .eq (.var 4) (.con (.str ""))) (.var 4)) (.lst .nil)) (.con .non) (.var 1))) .nil)))))
def f__law_parted : Fn := ⟨1, 5, b__law_parted⟩

def b__law_number : Ss := (.cons (.ifs (.or2 (.not1 (.isi (.var 0) .str)) (.not1 (.chain .le .le (.con (.int 1)) (.blt .len (.cons (.var 0) .nil)) (.con (.int 2))))) (.cons (.ret (.con .non)) .nil) .nil) (.cons (.ifs (.or2 (.cmp .ne (.comp [2] (.nm 2) (.seq (.var 0)) (.cmp .notin (.var 2) (.con (.str "0123456789"))) (.var 2)) (.lst .nil)) (.and2 (.cmp .eq (.blt .len (.cons (.var 0) .nil)) (.con (.int 2))) (.cmp .eq (.ix (.var 0) (.con (.int 0))) (.con (.str "0"))))) (.cons (.ret (.con .non)) .nil) .nil) (.cons (.asg 1 (.con (.int 0))) (.cons (.for' (.nm 2) (.seq (.var 0)) (.cons (.asg 1 (.bin .add (.bin .mul (.con (.int 10)) (.var 1)) (.mth .index (.con (.str "0123456789")) (.cons (.var 2) .nil)))) .nil)) (.cons (.ret (.var 1)) .nil)))))
def f__law_number : Fn := ⟨1, 3, b__law_number⟩

def b__law_row_text : Ss := (.cons (.asg 1 (.bin .add (.call "_law_words" (.cons (.var 0) (.cons (.con (.int 4)) .nil))) (.lst (.cons (.con (.str "[")) (.cons (.con (.str "]")) (.cons (.con (.str "|")) (.cons (.con (.str "any")) (.cons (.con (.str "0")) (.cons (.con (.str "7")) (.cons (.blt .toStr (.cons (.call "_law_draw" (.cons (.var 0) (.cons (.con (.int 120)) .nil))) .nil)) (.cons (.con (.str ";")) (.cons (.con (.str "=")) (.cons (.con (.str "a\nb")) .nil))))))))))))) (.cons (.asg 2 (.comp [4] (.nm 4) (.rng1 (.call "_law_draw" (.cons (.var 0) (.cons (.con (.int 7)) .nil)))) (.con (.bl true)) (.ix (.var 1) (.call "_law_draw" (.cons (.var 0) (.cons (.blt .len (.cons (.var 1) .nil)) .nil)))))) (.cons (.asg 3 (.con (.str ""))) (.cons (.for' (.tp [4, 5]) (.enum (.var 2)) (.cons (.asg 3 (.bin .add (.bin .add (.var 3) (.bin .mul (.con (.str " ")) (.bin .add (.blt .toInt (.cons (.cmp .gt (.var 4) (.con (.int 0))) .nil)) (.blt .toInt (.cons (.cmp .eq (.call "_law_draw" (.cons (.var 0) (.cons (.con (.int 9)) .nil))) (.con (.int 0))) .nil))))) (.var 5))) .nil)) (.cons (.ret (.bin .add (.bin .add (.ix (.lst (.cons (.con (.str "")) (.cons (.con (.str " ")) .nil))) (.blt .toInt (.cons (.cmp .eq (.call "_law_draw" (.cons (.var 0) (.cons (.con (.int 9)) .nil))) (.con (.int 0))) .nil))) (.var 3)) (.ix (.lst (.cons (.con (.str "")) (.cons (.con (.str " ")) .nil))) (.blt .toInt (.cons (.cmp .eq (.call "_law_draw" (.cons (.var 0) (.cons (.con (.int 9)) .nil))) (.con (.int 0))) .nil))))) .nil)))))
def f__law_row_text : Fn := ⟨1, 6, b__law_row_text⟩

def b__law_words_right : Ss := (.cons (.asg 1 (.call "_law_parted" (.cons (.var 0) .nil))) (.cons (.for' (.nm 2) (.rng1 (.con (.int 2))) (.cons (.any 3 (.call "words_of" (.cons (.var 0) .nil))) (.cons (.ifs (.cmp .ne (.blt1 .repr (.var 3)) (.blt .repr (.cons (.var 1) .nil))) (.cons (.ret (.con (.bl false))) .nil) .nil) (.cons (.ifs (.cmp .isnot (.var 3) (.con .non)) (.cons (.app 3 (.con (.str "a"))) .nil) .nil) .nil)))) (.cons (.ret (.con (.bl true))) .nil)))
def f__law_words_right : Fn := ⟨1, 4, b__law_words_right⟩

def b_law : Ss := (.cons (.asg 1 (.call "_law_begun" (.cons (.var 0) .nil))) (.cons (.own 2 (.lst (.cons (.con (.str "0")) (.cons (.con (.str "00")) (.cons (.con (.str "-0")) (.cons (.con (.str "-1")) (.cons (.con (.str "")) (.cons (.con (.str "99")) (.cons (.con (.str "100")) (.cons (.con (.str "09")) (.cons (.con (.str "9")) (.cons (.con (.str "+1")) (.cons (.con (.str " 1")) (.cons (.con (.str "1 ")) (.cons (.con (.str "1_0")) (.cons (.con (.str "1.")) (.cons (.con (.str "0x1")) (.cons (.con (.str "1e1")) (.cons (.con (.str "\n")) (.cons (.con (.str "9\n")) .nil)))))))))))))))))))) (.cons (.own 2 (.bin .add (.bin .add (.bin .add (.var 2) (.lst (.cons (.bin .mul (.con (.str "9")) (.con (.int 5000))) (.cons (.bin .mul (.con (.str "0")) (.con (.int 4400))) (.cons (.bin .add (.con (.str "-")) (.bin .mul (.con (.str "1")) (.con (.int 5000)))) .nil))))) (.comp [7] (.nm 7) (.rng1 (.con (.int 10))) (.con (.bl true)) (.blt .toStr (.cons (.var 7) .nil)))) (.lst (.cons (.blt .toStr (.cons (.call "_law_draw" (.cons (.var 1) (.cons (.con (.int 130)) .nil))) .nil)) .nil)))) (.cons (.for' (.nm 3) (.rng1 (.con (.int 8))) (.cons (.asgs [4, 5] (.tup (.cons (.blt .toStr (.cons (.call "_law_draw" (.cons (.var 1) (.cons (.con (.int 150)) .nil))) .nil)) (.cons (.call "_law_draw" (.cons (.var 1) (.cons (.con (.int 3)) .nil))) .nil)))) (.cons (.app 2 (.bin .add (.bin .add (.sl (.var 4) .no (.part (.var 5))) (.ix (.con (.str "abz-+_. \n0")) (.call "_law_draw" (.cons (.var 1) (.cons (.con (.int 10)) .nil))))) (.sl (.var 4) (.part (.var 5)) .no))) .nil))) (.cons (.for' (.nm 6) (.seq (.bin .add (.var 2) (.lst (.cons (.con .non) (.cons (.con (.int 5)) (.cons (.con (.bl true)) (.cons (.lst (.cons (.con (.str "0")) .nil)) (.cons (.tup (.cons (.con (.str "0")) .nil)) (.cons (.dct [] .nil) (.cons (.con (.int 0)) .nil)))))))))) (.cons (.ifs (.or2 (.cmp .ne (.blt .repr (.cons (.call "number_of" (.cons (.var 6) .nil)) .nil)) (.blt .repr (.cons (.call "_law_number" (.cons (.var 6) .nil)) .nil))) (.not1 (.call "_law_words_right" (.cons (.var 6) .nil)))) (.cons (.ret (.con (.bl false))) .nil) .nil) .nil)) (.cons (.ret (.and2 (.blt .all (.cons (.comp [3] (.nm 3) (.rng1 (.con (.int 24))) (.con (.bl true)) (.call "_law_words_right" (.cons (.call "_law_row_text" (.cons (.var 1) .nil)) .nil))) .nil)) (.call "_law_words_right" (.cons (.bin .add (.bin .mul (.con (.str "a ")) (.con (.int 3000))) (.con (.str "a"))) .nil)))) .nil))))))
def f_law : Fn := ⟨1, 8, b_law⟩

def tab : List (Str × Fn) := [(("number_of" : Str), f_number_of), (("words_of" : Str), f_words_of), (("_law_mixed" : Str), f__law_mixed), (("_law_folded" : Str), f__law_folded), (("_law_draw" : Str), f__law_draw), (("_law_begun" : Str), f__law_begun), (("_law_words" : Str), f__law_words), (("_law_parted" : Str), f__law_parted), (("_law_number" : Str), f__law_number), (("_law_row_text" : Str), f__law_row_text), (("_law_words_right" : Str), f__law_words_right), (("law" : Str), f_law)]
def T : Tab := fun x => tab.lookup x
theorem T_number_of : T "number_of" = some f_number_of := by rfl
theorem T_words_of : T "words_of" = some f_words_of := by rfl
theorem T__law_mixed : T "_law_mixed" = some f__law_mixed := by rfl
theorem T__law_folded : T "_law_folded" = some f__law_folded := by rfl
theorem T__law_draw : T "_law_draw" = some f__law_draw := by rfl
theorem T__law_begun : T "_law_begun" = some f__law_begun := by rfl
theorem T__law_words : T "_law_words" = some f__law_words := by rfl
theorem T__law_parted : T "_law_parted" = some f__law_parted := by rfl
theorem T__law_number : T "_law_number" = some f__law_number := by rfl
theorem T__law_row_text : T "_law_row_text" = some f__law_row_text := by rfl
theorem T__law_words_right : T "_law_words_right" = some f__law_words_right := by rfl
theorem T_law : T "law" = some f_law := by rfl
def glob : List (Str × D) := [(("FIGURES" : Str), .str "0123456789")]
def G : Str → Option D := fun x => glob.lookup x
theorem G_FIGURES : G "FIGURES" = some (.str "0123456789") := by rfl
def bs : List Str := [("isinstance" : Str), ("str" : Str), ("len" : Str), ("all" : Str), ("int" : Str), ("range" : Str), ("enumerate" : Str), ("repr" : Str)]
theorem sc_number_of : FnScope ["word", "sign"] ["word"] (defScope (topS 2)) := ⟨rfl, rfl, rfl, by decide +kernel, rfl, by decide +kernel, by decide +kernel⟩
theorem tie_number_of {w : World} {K : PySem.W.Frag} {mg : Str → Option Value} {base : Heap} {fa : Addr} {fd : FuncData} (hm : mg "number_of" = some (.ref fa)) (F : Fun K "number_of" "number_of" (topS 2) fa fd) : Tied prog w K mg base T G bs "number_of" f_number_of := by
  refine ⟨fa, fd, ["word"], ["word", "sign"], topS 2, "number_of", hm, F, F.binds (fun _ _ _ _ _ _ us hl => match us, hl with | [_], _ => rfl), sc_number_of, rfl, rfl, fun k C cdv A outer s H hs ce => ?_⟩
  have S := sc_number_of
  exact blk_cons (st_if ((tst_or (tst_not (tst_val (sim_isi .str (sim_var 0) hs.no hs.no))) (tst_or (tst_not (tst_chain cr_le cr_le (sim_int) (sim_blt br_len (args_cons (sim_var 0) (args_nil)) hs.no (by decide +kernel)) (sim_int))) (tst_last (tst_not (tst_val (sim_blt (br_all rfl) (args_cons (sim_comp [("sign", 1)] rfl S.nd (it_seq (sim_var 0)) (by first | (show blkC ["word", "sign"] (defScope (topS 2)) _ _ = true; decide +kernel) | rfl) (by decide +kernel) (fun _ _ _ _ _ => tg_name 1 S.nd) (fun _ _ _ _ _ => tsts_no) (fun _ _ _ _ _ => sim_cmp cr_in (sim_var 1) (sim_glo (hs.blk _ _ _ _ _).glob))) (args_nil)) hs.no (by decide +kernel))))))).pt) (blk_cons (st_ret (sim_non)) (blk_nil)) (blk_nil)) (blk_cons (st_ret (sim_ite ((tst_and (tst_cmp (cr_eq hs.hu64) (sim_blt br_len (args_cons (sim_var 0) (args_nil)) hs.no (by decide +kernel)) (sim_int)) (tst_last (tst_cmp (cr_eq hs.hu64) (sim_ix (sim_var 0) (sim_int)) (sim_str)))).pt) (sim_non) (sim_bltT br_int (args_cons (sim_var 0) (args_nil)) hs.no (by decide +kernel)))) (blk_nil))

theorem sc_words_of : FnScope ["row", "found"] ["row"] (defScope (topS 3)) := ⟨rfl, rfl, rfl, by decide +kernel, rfl, by decide +kernel, by decide +kernel⟩
theorem tie_words_of {w : World} {K : PySem.W.Frag} {mg : Str → Option Value} {base : Heap} {fa : Addr} {fd : FuncData} (hm : mg "words_of" = some (.ref fa)) (F : Fun K "words_of" "words_of" (topS 3) fa fd) : Tied prog w K mg base T G bs "words_of" f_words_of := by
  refine ⟨fa, fd, ["row"], ["row", "found"], topS 3, "words_of", hm, F, F.binds (fun _ _ _ _ _ _ us hl => match us, hl with | [_], _ => rfl), sc_words_of, rfl, rfl, fun k C cdv A outer s H hs ce => ?_⟩
  have S := sc_words_of
  exact blk_cons (st_if (tst_not (tst_val (sim_isi .str (sim_var 0) hs.no hs.no))) (blk_cons (st_ret (sim_non)) (blk_nil)) (blk_nil)) (blk_cons (st_any 1 S.nd (sim_split (sim_var 0) (sim_str))) (blk_cons (st_retX (rt_ite (tst_cmp cr_in (sim_str) (sim_var 1)) (rt_e (sim_non)) (rt_v 1 (pv 1)))) (blk_nil)))

theorem sc__law_mixed : FnScope ["_law_cell", "_law_k", "_law_number_here"] ["_law_cell", "_law_k"] (defScope (topS 5)) := ⟨rfl, rfl, rfl, by decide +kernel, rfl, by decide +kernel, by decide +kernel⟩
theorem tie__law_mixed {w : World} {K : PySem.W.Frag} {mg : Str → Option Value} {base : Heap} {fa : Addr} {fd : FuncData} (hm : mg "_law_mixed" = some (.ref fa)) (F : Fun K "_law_mixed" "_law_mixed" (topS 5) fa fd) : Tied prog w K mg base T G bs "_law_mixed" f__law_mixed := by
  refine ⟨fa, fd, ["_law_cell", "_law_k"], ["_law_cell", "_law_k", "_law_number_here"], topS 5, "_law_mixed", hm, F, F.binds (fun _ _ _ _ _ _ us hl => match us, hl with | [_, _], _ => rfl), sc__law_mixed, rfl, rfl, fun k C cdv A outer s H hs ce => ?_⟩
  have S := sc__law_mixed
  exact blk_cons (st_asg 2 S.nd (sim_add (sim_add (sim_mod (sim_mul (sim_mul (sim_var 0) (sim_add (sim_int) (sim_mul (sim_int) (sim_var 1)))) (sim_int)) (sim_int)) (sim_mul (sim_mul (sim_int) (sim_var 1)) (sim_var 1))) (sim_mul (sim_int) (sim_var 1)))) (blk_cons (st_ret (sim_fdiv (sim_mod (sim_mul (sim_var 2) (sim_int)) (sim_int)) (sim_int))) (blk_nil))

theorem sc__law_folded : FnScope ["_law_script", "_law_found", "_law_k", "_law_cell"] ["_law_script"] (defScope (topS 6)) := ⟨rfl, rfl, rfl, by decide +kernel, rfl, by decide +kernel, by decide +kernel⟩
theorem tie__law_folded {w : World} {K : PySem.W.Frag} {mg : Str → Option Value} {base : Heap} {fa : Addr} {fd : FuncData} (hm : mg "_law_folded" = some (.ref fa)) (F : Fun K "_law_folded" "_law_folded" (topS 6) fa fd) : Tied prog w K mg base T G bs "_law_folded" f__law_folded := by
  refine ⟨fa, fd, ["_law_script"], ["_law_script", "_law_found", "_law_k", "_law_cell"], topS 6, "_law_folded", hm, F, F.binds (fun _ _ _ _ _ _ us hl => match us, hl with | [_], _ => rfl), sc__law_folded, rfl, rfl, fun k C cdv A outer s H hs ce => ?_⟩
  have S := sc__law_folded
  exact blk_cons (st_ownC 1 [("_law_k", 2)] rfl S.nd (it_rng1 hs.no (sim_int)) (by first | (show blkC ["_law_script", "_law_found", "_law_k", "_law_cell"] (defScope (topS 6)) _ _ = true; decide +kernel) | rfl) (by decide +kernel) (fun _ _ _ _ _ => tg_name 2 S.nd) (fun _ _ _ _ _ => tsts_no) (fun _ _ _ _ _ => sim_add (sim_int) (sim_var 2)) (sw_true rfl rfl rfl (by decide +kernel))) (blk_cons (st_for PassesOwn.never rfl (it_enum hs.no (sim_var 0)) (tg_tup rfl (tgs_cons 2 S.nd (tgs_cons 3 S.nd (tgs_nil)))) (blk_cons (st_setOwn 1 (sim_mod (sim_add (sim_mul (sim_ix (sim_var 1) (sim_mod (sim_var 2) (sim_int))) (sim_int)) (sim_var 3)) (sim_int)) (sim_mod (sim_var 2) (sim_int)) (pv 1)) (blk_nil))) (blk_cons (st_for PassesOwn.never rfl (it_rng2 hs.no (sim_int) (sim_int)) (tg_name 2 S.nd) (blk_cons (st_setOwn 1 (sim_mod (sim_add (sim_ix (sim_var 1) (sim_var 2)) (sim_mul (sim_ix (sim_var 1) (sim_sub (sim_var 2) (sim_int))) (sim_int))) (sim_int)) (sim_var 2) (pv 1)) (blk_nil))) (blk_cons (st_retV 1 (pv 1)) (blk_nil))))

theorem sc__law_draw : FnScope ["_law_m", "_law_many", "_law_k", "_law_at", "_law_cell"] ["_law_m", "_law_many"] (defScope (topS 7)) := ⟨rfl, rfl, rfl, by decide +kernel, rfl, by decide +kernel, by decide +kernel⟩
theorem tie__law_draw {w : World} {K : PySem.W.Frag} {mg : Str → Option Value} {base : Heap} {fa : Addr} {fd : FuncData} (hm : mg "_law_draw" = some (.ref fa)) (F : Fun K "_law_draw" "_law_draw" (topS 7) fa fd) : Tied prog w K mg base T G bs "_law_draw" f__law_draw := by
  refine ⟨fa, fd, ["_law_m", "_law_many"], ["_law_m", "_law_many", "_law_k", "_law_at", "_law_cell"], topS 7, "_law_draw", hm, F, F.binds (fun _ _ _ _ _ _ us hl => match us, hl with | [_, _], _ => rfl), sc__law_draw, rfl, rfl, fun k C cdv A outer s H hs ce => ?_⟩
  have S := sc__law_draw
  exact blk_cons (st_asg 2 S.nd (sim_dget hs.hu (sim_var 0) (sim_str))) (blk_cons (st_setD hs.hu (sim_add (sim_var 2) (sim_int)) (sim_var 0) (sim_str)) (blk_cons (st_if (tst_cmp (cr_ne hs.hu64) (sim_dget hs.hu (sim_var 0) (sim_str)) (sim_lst (args_nil))) (blk_cons (st_asg 3 S.nd (sim_mod (sim_var 2) (sim_blt br_len (args_cons (sim_dget hs.hu (sim_var 0) (sim_str)) (args_nil)) hs.no (by decide +kernel)))) (blk_cons (st_asg 4 S.nd (sim_ix (sim_dget hs.hu (sim_var 0) (sim_str)) (sim_var 3))) (blk_cons (st_if (tst_cmp cr_gt (sim_var 4) (sim_int)) (blk_cons (st_setL (sim_fdiv (sim_var 4) (sim_var 1)) (sim_dget hs.hu (sim_var 0) (sim_str)) (sim_var 3)) (blk_cons (st_ret (sim_mod (sim_var 4) (sim_var 1))) (blk_nil))) (blk_nil)) (blk_nil)))) (blk_nil)) (blk_cons (st_ret (sim_mod (sim_call (hs.call _ _ T__law_mixed) hs.room hs.gd (args_cons (sim_call (hs.call _ _ T__law_mixed) hs.room hs.gd (args_cons (sim_add (sim_ix (sim_dget hs.hu (sim_var 0) (sim_str)) (sim_mod (sim_var 2) (sim_int))) (sim_mul (sim_int) (sim_fdiv (sim_var 2) (sim_int)))) (args_cons (sim_var 2) (args_nil)))) (args_cons (sim_add (sim_var 2) (sim_int)) (args_nil)))) (sim_var 1))) (blk_nil))))

theorem sc__law_begun : FnScope ["_law_script", "_law_m", "_law_cell"] ["_law_script"] (defScope (topS 8)) := ⟨rfl, rfl, rfl, by decide +kernel, rfl, by decide +kernel, by decide +kernel⟩
theorem tie__law_begun {w : World} {K : PySem.W.Frag} {mg : Str → Option Value} {base : Heap} {fa : Addr} {fd : FuncData} (hm : mg "_law_begun" = some (.ref fa)) (F : Fun K "_law_begun" "_law_begun" (topS 8) fa fd) : Tied prog w K mg base T G bs "_law_begun" f__law_begun := by
  refine ⟨fa, fd, ["_law_script"], ["_law_script", "_law_m", "_law_cell"], topS 8, "_law_begun", hm, F, F.binds (fun _ _ _ _ _ _ us hl => match us, hl with | [_], _ => rfl), sc__law_begun, rfl, rfl, fun k C cdv A outer s H hs ce => ?_⟩
  have S := sc__law_begun
  exact blk_cons (st_asg 1 S.nd (sim_dct (pps_cons pe_str (sim_promo (sim_call (hs.call _ _ T__law_folded) hs.room hs.gd (args_cons (sim_var 0) (args_nil)))) (pps_cons pe_str (sim_promo (sim_lst (args_nil))) (pps_cons pe_str (sim_int) (pps_nil)))))) (blk_cons (st_setD hs.hu (sim_promo (sim_comp [("_law_cell", 2)] rfl S.nd (it_seq (sim_var 0)) (by first | (show blkC ["_law_script", "_law_m", "_law_cell"] (defScope (topS 8)) _ _ = true; decide +kernel) | rfl) (by decide +kernel) (fun _ _ _ _ _ => tg_name 2 S.nd) (fun _ _ _ _ _ => tsts_no) (fun _ _ _ _ _ => sim_ite (tst_cmp cr_ge (sim_var 2) (sim_pow (sim_int) (sim_int))) (sim_var 2) (sim_int)))) (sim_var 1) (sim_str)) (blk_cons (st_ret (sim_var 1)) (blk_nil)))

theorem sc__law_words : FnScope ["_law_m", "_law_many", "_law_letters", "_law_start", "_law_way", "_law_size", "_law_at", "_law_stride", "_law_base", "_law_found", "_law_k", "_law_mark", "_law_bars", "_law_j", "_law_word"] ["_law_m", "_law_many"] (defScope (topS 9)) := ⟨rfl, rfl, rfl, by decide +kernel, rfl, by decide +kernel, by decide +kernel⟩
theorem tie__law_words {w : World} {K : PySem.W.Frag} {mg : Str → Option Value} {base : Heap} {fa : Addr} {fd : FuncData} (hm : mg "_law_words" = some (.ref fa)) (F : Fun K "_law_words" "_law_words" (topS 9) fa fd) : Tied prog w K mg base T G bs "_law_words" f__law_words := by
  refine ⟨fa, fd, ["_law_m", "_law_many"], ["_law_m", "_law_many", "_law_letters", "_law_start", "_law_way", "_law_size", "_law_at", "_law_stride", "_law_base", "_law_found", "_law_k", "_law_mark", "_law_bars", "_law_j", "_law_word"], topS 9, "_law_words", hm, F, F.binds (fun _ _ _ _ _ _ us hl => match us, hl with | [_, _], _ => rfl), sc__law_words, rfl, rfl, fun k C cdv A outer s H hs ce => ?_⟩
  have S := sc__law_words
  exact blk_cons (st_asg 2 S.nd (sim_str)) (blk_cons (st_asgs rfl (sim_tup (args_cons (sim_call (hs.call _ _ T__law_draw) hs.room hs.gd (args_cons (sim_var 0) (args_cons (sim_int) (args_nil)))) (args_cons (sim_call (hs.call _ _ T__law_draw) hs.room hs.gd (args_cons (sim_var 0) (args_cons (sim_int) (args_nil)))) (args_nil)))) (tgs_cons 3 S.nd (tgs_cons 4 S.nd (tgs_nil)))) (blk_cons (st_asg 5 S.nd (sim_add (sim_int) (sim_call (hs.call _ _ T__law_draw) hs.room hs.gd (args_cons (sim_var 0) (args_cons (sim_int) (args_nil)))))) (blk_cons (st_asg 6 S.nd (sim_call (hs.call _ _ T__law_draw) hs.room hs.gd (args_cons (sim_var 0) (args_cons (sim_var 5) (args_nil))))) (blk_cons (st_asg 7 S.nd (sim_ix (sim_lst (args_cons (sim_int) (args_cons (sim_int) (args_cons (sim_int) (args_cons (sim_int) (args_cons (sim_int) (args_cons (sim_int) (args_nil)))))))) (sim_call (hs.call _ _ T__law_draw) hs.room hs.gd (args_cons (sim_var 0) (args_cons (sim_int) (args_nil)))))) (blk_cons (st_asg 8 S.nd (sim_join (sim_str) (sim_comp [("_law_j", 13)] rfl S.nd (it_rng1 hs.no (sim_int)) (by first | (show blkC ["_law_m", "_law_many", "_law_letters", "_law_start", "_law_way", "_law_size", "_law_at", "_law_stride", "_law_base", "_law_found", "_law_k", "_law_mark", "_law_bars", "_law_j", "_law_word"] (defScope (topS 9)) _ _ = true; decide +kernel) | rfl) (by decide +kernel) (fun _ _ _ _ _ => tg_name 13 S.nd) (fun _ _ _ _ _ => tsts_no) (fun _ _ _ _ _ => sim_ix (sim_var 2) (sim_mod (sim_add (sim_var 3) (sim_mul (sim_int) (sim_var 13))) (sim_int)))))) (blk_cons (st_own 9 S.nd (sim_lst (args_nil))) (blk_cons (st_for PassesOwn.never rfl (it_rng1 hs.no (sim_var 1)) (tg_name 10 S.nd) (blk_cons (st_asg 11 S.nd (sim_ix (sim_var 2) (sim_mod (sim_add (sim_var 3) (sim_mul (sim_var 7) (sim_var 10))) (sim_int)))) (blk_cons (st_app 9 (sim_ite (tst_cmp (cr_eq hs.hu64) (sim_var 4) (sim_int)) (sim_add (sim_var 11) (sim_sl (sim_var 8) part_no (part_some (sim_mod (sim_mul (sim_var 10) (sim_var 7)) (sim_int))))) (sim_add (sim_add (sim_sl (sim_var 8) part_no (part_some (sim_var 6))) (sim_var 11)) (sim_sl (sim_var 8) (part_some (sim_add (sim_var 6) (sim_int))) (part_some (sim_var 5))))) (pv 9)) (blk_nil)))) (blk_cons (st_asg 12 S.nd (sim_lst (args_cons (sim_str) (args_cons (sim_str) (args_cons (sim_str) (args_cons (sim_str) (args_cons (sim_str) (args_cons (sim_str) (args_cons (sim_str) (args_cons (sim_str) (args_cons (sim_str) (args_cons (sim_str) (args_cons (sim_str) (args_cons (sim_str) (args_cons (sim_str) (args_nil)))))))))))))))) (blk_cons (st_asg 12 S.nd (sim_add (sim_var 12) (sim_lst (args_cons (sim_str) (args_cons (sim_str) (args_cons (sim_str) (args_cons (sim_str) (args_cons (sim_str) (args_nil))))))))) (blk_frz (blk_cons (st_ret (sim_comp [("_law_word", 14)] rfl S.nd (it_seq (sim_var 9)) (by first | (show blkC ["_law_m", "_law_many", "_law_letters", "_law_start", "_law_way", "_law_size", "_law_at", "_law_stride", "_law_base", "_law_found", "_law_k", "_law_mark", "_law_bars", "_law_j", "_law_word"] (defScope (topS 9)) _ _ = true; decide +kernel) | rfl) (by decide +kernel) (fun _ _ _ _ _ => tg_name 14 S.nd) (fun _ _ _ _ _ => tsts_no) (fun _ _ _ _ _ => sim_ite (tst_cmp cr_notin (sim_var 14) (sim_var 12)) (sim_var 14) (sim_add (sim_add (sim_str) (sim_sl (sim_var 14) part_no (part_some (sim_int)))) (sim_str))))) (blk_nil))))))))))))

theorem sc__law_parted : FnScope ["_law_text", "_law_found", "_law_word", "_law_sign", "_law_one"] ["_law_text"] (defScope (topS 10)) := ⟨rfl, rfl, rfl, by decide +kernel, rfl, by decide +kernel, by decide +kernel⟩
theorem tie__law_parted {w : World} {K : PySem.W.Frag} {mg : Str → Option Value} {base : Heap} {fa : Addr} {fd : FuncData} (hm : mg "_law_parted" = some (.ref fa)) (F : Fun K "_law_parted" "_law_parted" (topS 10) fa fd) : Tied prog w K mg base T G bs "_law_parted" f__law_parted := by
  refine ⟨fa, fd, ["_law_text"], ["_law_text", "_law_found", "_law_word", "_law_sign", "_law_one"], topS 10, "_law_parted", hm, F, F.binds (fun _ _ _ _ _ _ us hl => match us, hl with | [_], _ => rfl), sc__law_parted, rfl, rfl, fun k C cdv A outer s H hs ce => ?_⟩
  have S := sc__law_parted
  exact blk_cons (st_if (tst_not (tst_val (sim_isi .str (sim_var 0) hs.no hs.no))) (blk_cons (st_ret (sim_non)) (blk_nil)) (blk_nil)) (blk_cons (st_par2 1 2 rfl S.nd (sim_lst (args_nil)) (sim_str) (by rfl)) (blk_cons (st_for PassesOwn.never rfl (it_seq (sim_add (sim_var 0) (sim_str))) (tg_name 3 S.nd) (blk_cons (st_if (tst_cmp (cr_eq hs.hu64) (sim_var 3) (sim_str)) (blk_cons (st_app 1 (sim_var 2) (pv 1)) (blk_nil)) (blk_nil)) (blk_cons (st_asg 2 S.nd (sim_ite (tst_cmp (cr_eq hs.hu64) (sim_var 3) (sim_str)) (sim_str) (sim_add (sim_var 2) (sim_var 3)))) (blk_nil)))) (blk_frz (blk_cons (st_ret (sim_ite (tst_cmp (cr_ne hs.hu64) (sim_comp [("_law_one", 4)] rfl S.nd (it_seq (sim_var 1)) (by first | (show blkC ["_law_text", "_law_found", "_law_word", "_law_sign", "_law_one"] (defScope (topS 10)) _ _ = true; decide +kernel) | rfl) (by decide +kernel) (fun _ _ _ _ _ => tg_name 4 S.nd) (fun _ _ _ _ _ => tsts_one (tst_cmp (cr_eq (hs.blk _ _ _ _ _).hu64) (sim_var 4) (sim_str))) (fun _ _ _ _ _ => sim_var 4)) (sim_lst (args_nil))) (sim_non) (sim_var 1))) (blk_nil)))))

theorem sc__law_number : FnScope ["_law_text", "_law_found", "_law_sign"] ["_law_text"] (defScope (topS 11)) := ⟨rfl, rfl, rfl, by decide +kernel, rfl, by decide +kernel, by decide +kernel⟩
theorem tie__law_number {w : World} {K : PySem.W.Frag} {mg : Str → Option Value} {base : Heap} {fa : Addr} {fd : FuncData} (hm : mg "_law_number" = some (.ref fa)) (F : Fun K "_law_number" "_law_number" (topS 11) fa fd) : Tied prog w K mg base T G bs "_law_number" f__law_number := by
  refine ⟨fa, fd, ["_law_text"], ["_law_text", "_law_found", "_law_sign"], topS 11, "_law_number", hm, F, F.binds (fun _ _ _ _ _ _ us hl => match us, hl with | [_], _ => rfl), sc__law_number, rfl, rfl, fun k C cdv A outer s H hs ce => ?_⟩
  have S := sc__law_number
  exact blk_cons (st_if ((tst_or (tst_not (tst_val (sim_isi .str (sim_var 0) hs.no hs.no))) (tst_last (tst_not (tst_chain cr_le cr_le (sim_int) (sim_blt br_len (args_cons (sim_var 0) (args_nil)) hs.no (by decide +kernel)) (sim_int))))).pt) (blk_cons (st_ret (sim_non)) (blk_nil)) (blk_nil)) (blk_cons (st_if ((tst_or (tst_cmp (cr_ne hs.hu64) (sim_comp [("_law_sign", 2)] rfl S.nd (it_seq (sim_var 0)) (by first | (show blkC ["_law_text", "_law_found", "_law_sign"] (defScope (topS 11)) _ _ = true; decide +kernel) | rfl) (by decide +kernel) (fun _ _ _ _ _ => tg_name 2 S.nd) (fun _ _ _ _ _ => tsts_one (tst_cmp cr_notin (sim_var 2) (sim_str))) (fun _ _ _ _ _ => sim_var 2)) (sim_lst (args_nil))) (tst_last ((tst_and (tst_cmp (cr_eq hs.hu64) (sim_blt br_len (args_cons (sim_var 0) (args_nil)) hs.no (by decide +kernel)) (sim_int)) (tst_last (tst_cmp (cr_eq hs.hu64) (sim_ix (sim_var 0) (sim_int)) (sim_str)))).pt))).pt) (blk_cons (st_ret (sim_non)) (blk_nil)) (blk_nil)) (blk_cons (st_asg 1 S.nd (sim_int)) (blk_cons (st_for PassesOwn.never rfl (it_seq (sim_var 0)) (tg_name 2 S.nd) (blk_cons (st_asg 1 S.nd (sim_add (sim_mul (sim_int) (sim_var 1)) (sim_index (sim_str) (sim_var 2)))) (blk_nil))) (blk_cons (st_ret (sim_var 1)) (blk_nil)))))

theorem sc__law_row_text : FnScope ["_law_m", "_law_some", "_law_found", "_law_text", "_law_k", "_law_word"] ["_law_m"] (defScope (topS 12)) := ⟨rfl, rfl, rfl, by decide +kernel, rfl, by decide +kernel, by decide +kernel⟩
theorem tie__law_row_text {w : World} {K : PySem.W.Frag} {mg : Str → Option Value} {base : Heap} {fa : Addr} {fd : FuncData} (hm : mg "_law_row_text" = some (.ref fa)) (F : Fun K "_law_row_text" "_law_row_text" (topS 12) fa fd) : Tied prog w K mg base T G bs "_law_row_text" f__law_row_text := by
  refine ⟨fa, fd, ["_law_m"], ["_law_m", "_law_some", "_law_found", "_law_text", "_law_k", "_law_word"], topS 12, "_law_row_text", hm, F, F.binds (fun _ _ _ _ _ _ us hl => match us, hl with | [_], _ => rfl), sc__law_row_text, rfl, rfl, fun k C cdv A outer s H hs ce => ?_⟩
  have S := sc__law_row_text
  exact blk_cons (st_asg 1 S.nd (sim_add (sim_call (hs.call _ _ T__law_words) hs.room hs.gd (args_cons (sim_var 0) (args_cons (sim_int) (args_nil)))) (sim_lst (args_cons (sim_str) (args_cons (sim_str) (args_cons (sim_str) (args_cons (sim_str) (args_cons (sim_str) (args_cons (sim_str) (args_cons (sim_bltT br_str (args_cons (sim_call (hs.call _ _ T__law_draw) hs.room hs.gd (args_cons (sim_var 0) (args_cons (sim_int) (args_nil)))) (args_nil)) hs.no (by decide +kernel)) (args_cons (sim_str) (args_cons (sim_str) (args_cons (sim_str) (args_nil)))))))))))))) (blk_cons (st_asgC 2 [("_law_k", 4)] rfl S.nd (it_rng1 hs.no (sim_call (hs.call _ _ T__law_draw) hs.room hs.gd (args_cons (sim_var 0) (args_cons (sim_int) (args_nil))))) (by first | (show blkC ["_law_m", "_law_some", "_law_found", "_law_text", "_law_k", "_law_word"] (defScope (topS 12)) _ _ = true; decide +kernel) | rfl) (by decide +kernel) (fun _ _ _ _ _ => tg_name 4 S.nd) (fun _ _ _ _ _ => tsts_no) (fun _ _ _ _ _ => sim_ix (sim_var 1) (sim_call ((hs.blk _ _ _ _ _).call _ _ T__law_draw) (hs.blk _ _ _ _ _).room (hs.blk _ _ _ _ _).gd (args_cons (sim_var 0) (args_cons (sim_blt br_len (args_cons (sim_var 1) (args_nil)) (hs.blk _ _ _ _ _).no (by decide +kernel)) (args_nil))))) (sw_true rfl rfl rfl (by decide +kernel))) (blk_cons (st_asg 3 S.nd (sim_str)) (blk_cons (st_for PassesOwn.never rfl (it_enum hs.no (sim_var 2)) (tg_tup rfl (tgs_cons 4 S.nd (tgs_cons 5 S.nd (tgs_nil)))) (blk_cons (st_asg 3 S.nd (sim_add (sim_add (sim_var 3) (sim_mul (sim_str) (sim_add (sim_bltT br_int (args_cons (sim_cmp cr_gt (sim_var 4) (sim_int)) (args_nil)) hs.no (by decide +kernel)) (sim_bltT br_int (args_cons (sim_cmp (cr_eq hs.hu64) (sim_call (hs.call _ _ T__law_draw) hs.room hs.gd (args_cons (sim_var 0) (args_cons (sim_int) (args_nil)))) (sim_int)) (args_nil)) hs.no (by decide +kernel))))) (sim_var 5))) (blk_nil))) (blk_cons (st_ret (sim_add (sim_add (sim_ix (sim_lst (args_cons (sim_str) (args_cons (sim_str) (args_nil)))) (sim_bltT br_int (args_cons (sim_cmp (cr_eq hs.hu64) (sim_call (hs.call _ _ T__law_draw) hs.room hs.gd (args_cons (sim_var 0) (args_cons (sim_int) (args_nil)))) (sim_int)) (args_nil)) hs.no (by decide +kernel))) (sim_var 3)) (sim_ix (sim_lst (args_cons (sim_str) (args_cons (sim_str) (args_nil)))) (sim_bltT br_int (args_cons (sim_cmp (cr_eq hs.hu64) (sim_call (hs.call _ _ T__law_draw) hs.room hs.gd (args_cons (sim_var 0) (args_cons (sim_int) (args_nil)))) (sim_int)) (args_nil)) hs.no (by decide +kernel))))) (blk_nil)))))

theorem sc__law_words_right : FnScope ["_law_thing", "_law_due", "_law_again", "_law_found"] ["_law_thing"] (defScope (topS 13)) := ⟨rfl, rfl, rfl, by decide +kernel, rfl, by decide +kernel, by decide +kernel⟩
theorem tie__law_words_right {w : World} {K : PySem.W.Frag} {mg : Str → Option Value} {base : Heap} {fa : Addr} {fd : FuncData} (hm : mg "_law_words_right" = some (.ref fa)) (F : Fun K "_law_words_right" "_law_words_right" (topS 13) fa fd) : Tied prog w K mg base T G bs "_law_words_right" f__law_words_right := by
  refine ⟨fa, fd, ["_law_thing"], ["_law_thing", "_law_due", "_law_again", "_law_found"], topS 13, "_law_words_right", hm, F, F.binds (fun _ _ _ _ _ _ us hl => match us, hl with | [_], _ => rfl), sc__law_words_right, rfl, rfl, fun k C cdv A outer s H hs ce => ?_⟩
  have S := sc__law_words_right
  exact blk_cons (st_asg 1 S.nd (sim_call (hs.call _ _ T__law_parted) hs.room hs.gd (args_cons (sim_var 0) (args_nil)))) (blk_cons (st_for PassesOwn.never rfl (it_rng1 hs.no (sim_int)) (tg_name 2 S.nd) (blk_cons (st_any 3 S.nd (sim_call (hs.call _ _ T_words_of) hs.room hs.gd (args_cons (sim_var 0) (args_nil)))) (blk_cons (st_if (tst_cmp (cr_ne hs.hu64) (sim_blt1 (b1_repr hs.hu hs.gd) (sim_var 3) hs.no (by decide +kernel)) (sim_blt (br_repr hs.hu hs.gd) (args_cons (sim_var 1) (args_nil)) hs.no (by decide +kernel))) (blk_cons (st_ret (sim_bl)) (blk_nil)) (blk_nil)) (blk_cons (st_if (tst_cmp cr_isnot (sim_var 3) (sim_non)) (blk_cons (st_app 3 (sim_str) (pv 3)) (blk_nil)) (blk_nil)) (blk_nil))))) (blk_cons (st_ret (sim_bl)) (blk_nil)))

theorem sc_law : FnScope ["_law_script", "_law_m", "_law_some", "_law_turn", "_law_word", "_law_at", "_law_thing", "_law_k"] ["_law_script"] (defScope (topS 14)) := ⟨rfl, rfl, rfl, by decide +kernel, rfl, by decide +kernel, by decide +kernel⟩
theorem tie_law {w : World} {K : PySem.W.Frag} {mg : Str → Option Value} {base : Heap} {fa : Addr} {fd : FuncData} (hm : mg "law" = some (.ref fa)) (F : Fun K "law" "law" (topS 14) fa fd) : Tied prog w K mg base T G bs "law" f_law := by
  refine ⟨fa, fd, ["_law_script"], ["_law_script", "_law_m", "_law_some", "_law_turn", "_law_word", "_law_at", "_law_thing", "_law_k"], topS 14, "law", hm, F, F.binds (fun _ _ _ _ _ _ us hl => match us, hl with | [_], _ => rfl), sc_law, rfl, rfl, fun k C cdv A outer s H hs ce => ?_⟩
  have S := sc_law
  exact blk_cons (st_asg 1 S.nd (sim_call (hs.call _ _ T__law_begun) hs.room hs.gd (args_cons (sim_var 0) (args_nil)))) (blk_cons (st_own 2 S.nd (sim_lst (args_cons (sim_str) (args_cons (sim_str) (args_cons (sim_str) (args_cons (sim_str) (args_cons (sim_str) (args_cons (sim_str) (args_cons (sim_str) (args_cons (sim_str) (args_cons (sim_str) (args_cons (sim_str) (args_cons (sim_str) (args_cons (sim_str) (args_cons (sim_str) (args_cons (sim_str) (args_cons (sim_str) (args_cons (sim_str) (args_cons (sim_str) (args_cons (sim_str) (args_nil))))))))))))))))))))) (blk_cons (st_own 2 S.nd (sim_add (sim_add (sim_add (sim_var 2) (sim_lst (args_cons (sim_mul (sim_str) (sim_int)) (args_cons (sim_mul (sim_str) (sim_int)) (args_cons (sim_add (sim_str) (sim_mul (sim_str) (sim_int))) (args_nil)))))) (sim_comp [("_law_k", 7)] rfl S.nd (it_rng1 hs.no (sim_int)) (by first | (show blkC ["_law_script", "_law_m", "_law_some", "_law_turn", "_law_word", "_law_at", "_law_thing", "_law_k"] (defScope (topS 14)) _ _ = true; decide +kernel) | rfl) (by decide +kernel) (fun _ _ _ _ _ => tg_name 7 S.nd) (fun _ _ _ _ _ => tsts_no) (fun _ _ _ _ _ => sim_bltT br_str (args_cons (sim_var 7) (args_nil)) (hs.blk _ _ _ _ _).no (by decide +kernel)))) (sim_lst (args_cons (sim_bltT br_str (args_cons (sim_call (hs.call _ _ T__law_draw) hs.room hs.gd (args_cons (sim_var 1) (args_cons (sim_int) (args_nil)))) (args_nil)) hs.no (by decide +kernel)) (args_nil))))) (blk_cons (st_for PassesOwn.never rfl (it_rng1 hs.no (sim_int)) (tg_name 3 S.nd) (blk_cons (st_par 4 5 rfl S.nd (args_cons (sim_bltT br_str (args_cons (sim_call (hs.call _ _ T__law_draw) hs.room hs.gd (args_cons (sim_var 1) (args_cons (sim_int) (args_nil)))) (args_nil)) hs.no (by decide +kernel)) (args_cons (sim_call (hs.call _ _ T__law_draw) hs.room hs.gd (args_cons (sim_var 1) (args_cons (sim_int) (args_nil)))) (args_nil))) (by rfl)) (blk_cons (st_app 2 (sim_add (sim_add (sim_sl (sim_var 4) part_no (part_some (sim_var 5))) (sim_ix (sim_str) (sim_call (hs.call _ _ T__law_draw) hs.room hs.gd (args_cons (sim_var 1) (args_cons (sim_int) (args_nil)))))) (sim_sl (sim_var 4) (part_some (sim_var 5)) part_no)) (pv 2)) (blk_nil)))) (blk_cons (st_for PassesOwn.never rfl (it_seq (sim_add (sim_var 2) (sim_lst (args_cons (sim_non) (args_cons (sim_int) (args_cons (sim_bl) (args_cons (sim_lst (args_cons (sim_str) (args_nil))) (args_cons (sim_tup (args_cons (sim_str) (args_nil))) (args_cons (sim_dct0) (args_cons (sim_int) (args_nil))))))))))) (tg_name 6 S.nd) (blk_cons (st_if ((tst_or (tst_cmp (cr_ne hs.hu64) (sim_blt (br_repr hs.hu hs.gd) (args_cons (sim_call (hs.call _ _ T_number_of) hs.room hs.gd (args_cons (sim_var 6) (args_nil))) (args_nil)) hs.no (by decide +kernel)) (sim_blt (br_repr hs.hu hs.gd) (args_cons (sim_call (hs.call _ _ T__law_number) hs.room hs.gd (args_cons (sim_var 6) (args_nil))) (args_nil)) hs.no (by decide +kernel))) (tst_last (tst_not (tst_val (sim_call (hs.call _ _ T__law_words_right) hs.room hs.gd (args_cons (sim_var 6) (args_nil))))))).pt) (blk_cons (st_ret (sim_bl)) (blk_nil)) (blk_nil)) (blk_nil))) (blk_cons (st_ret (sim_and (sim_blt (br_all rfl) (args_cons (sim_comp [("_law_turn", 3)] rfl S.nd (it_rng1 hs.no (sim_int)) (by first | (show blkC ["_law_script", "_law_m", "_law_some", "_law_turn", "_law_word", "_law_at", "_law_thing", "_law_k"] (defScope (topS 14)) _ _ = true; decide +kernel) | rfl) (by decide +kernel) (fun _ _ _ _ _ => tg_name 3 S.nd) (fun _ _ _ _ _ => tsts_no) (fun _ _ _ _ _ => sim_call ((hs.blk _ _ _ _ _).call _ _ T__law_words_right) (hs.blk _ _ _ _ _).room (hs.blk _ _ _ _ _).gd (args_cons (sim_call ((hs.blk _ _ _ _ _).call _ _ T__law_row_text) (hs.blk _ _ _ _ _).room (hs.blk _ _ _ _ _).gd (args_cons (sim_var 1) (args_nil))) (args_nil)))) (args_nil)) hs.no (by decide +kernel)) (sim_last (sim_call (hs.call _ _ T__law_words_right) hs.room hs.gd (args_cons (sim_add (sim_mul (sim_str) (sim_int)) (sim_str)) (args_nil)))))) (blk_nil))))))

theorem all_mk {w : World} {K : PySem.W.Frag} {h : Heap} {mg : Str → Option Value} (X : K.In h) (Gn : h.Ns mainGlobals mg)
  {f0 : Addr} {od0 an0 : Option Addr} {sl0 : Array (Option Value)} {oc0 kV0 dc0 pm0 cd0 ct0 : Value}
  {f1 : Addr} {od1 an1 : Option Addr} {sl1 : Array (Option Value)} {oc1 kV1 dc1 pm1 cd1 ct1 : Value}
  {f2 : Addr} {od2 an2 : Option Addr} {sl2 : Array (Option Value)} {oc2 kV2 dc2 pm2 cd2 ct2 : Value}
  {f3 : Addr} {od3 an3 : Option Addr} {sl3 : Array (Option Value)} {oc3 kV3 dc3 pm3 cd3 ct3 : Value}
  {f4 : Addr} {od4 an4 : Option Addr} {sl4 : Array (Option Value)} {oc4 kV4 dc4 pm4 cd4 ct4 : Value}
  {f5 : Addr} {od5 an5 : Option Addr} {sl5 : Array (Option Value)} {oc5 kV5 dc5 pm5 cd5 ct5 : Value}
  {f6 : Addr} {od6 an6 : Option Addr} {sl6 : Array (Option Value)} {oc6 kV6 dc6 pm6 cd6 ct6 : Value}
  {f7 : Addr} {od7 an7 : Option Addr} {sl7 : Array (Option Value)} {oc7 kV7 dc7 pm7 cd7 ct7 : Value}
  {f8 : Addr} {od8 an8 : Option Addr} {sl8 : Array (Option Value)} {oc8 kV8 dc8 pm8 cd8 ct8 : Value}
  {f9 : Addr} {od9 an9 : Option Addr} {sl9 : Array (Option Value)} {oc9 kV9 dc9 pm9 cd9 ct9 : Value}
  {f10 : Addr} {od10 an10 : Option Addr} {sl10 : Array (Option Value)} {oc10 kV10 dc10 pm10 cd10 ct10 : Value}
  {f11 : Addr} {od11 an11 : Option Addr} {sl11 : Array (Option Value)} {oc11 kV11 dc11 pm11 cd11 ct11 : Value}
  {gv0 : Value}
  (a0 : PySem.W.nsIn K mainGlobals "number_of" = some (some (.ref f0))) (l0 : K.lookup f0 = some ⟨oc0, od0, .func (PySem.W.fnOf "number_of" "number_of" (defArgs (topS 2)) (defBody (topS 2)) (defScope (topS 2)) .none kV0 dc0 pm0 an0 cd0 ct0), sl0⟩) (c0 : PySem.W.codeIn K cd0 "number_of" = true) (k0 : PySem.W.keepIn K (.ref f0) = true)
  (a1 : PySem.W.nsIn K mainGlobals "words_of" = some (some (.ref f1))) (l1 : K.lookup f1 = some ⟨oc1, od1, .func (PySem.W.fnOf "words_of" "words_of" (defArgs (topS 3)) (defBody (topS 3)) (defScope (topS 3)) .none kV1 dc1 pm1 an1 cd1 ct1), sl1⟩) (c1 : PySem.W.codeIn K cd1 "words_of" = true) (k1 : PySem.W.keepIn K (.ref f1) = true)
  (a2 : PySem.W.nsIn K mainGlobals "_law_mixed" = some (some (.ref f2))) (l2 : K.lookup f2 = some ⟨oc2, od2, .func (PySem.W.fnOf "_law_mixed" "_law_mixed" (defArgs (topS 5)) (defBody (topS 5)) (defScope (topS 5)) .none kV2 dc2 pm2 an2 cd2 ct2), sl2⟩) (c2 : PySem.W.codeIn K cd2 "_law_mixed" = true) (k2 : PySem.W.keepIn K (.ref f2) = true)
  (a3 : PySem.W.nsIn K mainGlobals "_law_folded" = some (some (.ref f3))) (l3 : K.lookup f3 = some ⟨oc3, od3, .func (PySem.W.fnOf "_law_folded" "_law_folded" (defArgs (topS 6)) (defBody (topS 6)) (defScope (topS 6)) .none kV3 dc3 pm3 an3 cd3 ct3), sl3⟩) (c3 : PySem.W.codeIn K cd3 "_law_folded" = true) (k3 : PySem.W.keepIn K (.ref f3) = true)
  (a4 : PySem.W.nsIn K mainGlobals "_law_draw" = some (some (.ref f4))) (l4 : K.lookup f4 = some ⟨oc4, od4, .func (PySem.W.fnOf "_law_draw" "_law_draw" (defArgs (topS 7)) (defBody (topS 7)) (defScope (topS 7)) .none kV4 dc4 pm4 an4 cd4 ct4), sl4⟩) (c4 : PySem.W.codeIn K cd4 "_law_draw" = true) (k4 : PySem.W.keepIn K (.ref f4) = true)
  (a5 : PySem.W.nsIn K mainGlobals "_law_begun" = some (some (.ref f5))) (l5 : K.lookup f5 = some ⟨oc5, od5, .func (PySem.W.fnOf "_law_begun" "_law_begun" (defArgs (topS 8)) (defBody (topS 8)) (defScope (topS 8)) .none kV5 dc5 pm5 an5 cd5 ct5), sl5⟩) (c5 : PySem.W.codeIn K cd5 "_law_begun" = true) (k5 : PySem.W.keepIn K (.ref f5) = true)
  (a6 : PySem.W.nsIn K mainGlobals "_law_words" = some (some (.ref f6))) (l6 : K.lookup f6 = some ⟨oc6, od6, .func (PySem.W.fnOf "_law_words" "_law_words" (defArgs (topS 9)) (defBody (topS 9)) (defScope (topS 9)) .none kV6 dc6 pm6 an6 cd6 ct6), sl6⟩) (c6 : PySem.W.codeIn K cd6 "_law_words" = true) (k6 : PySem.W.keepIn K (.ref f6) = true)
  (a7 : PySem.W.nsIn K mainGlobals "_law_parted" = some (some (.ref f7))) (l7 : K.lookup f7 = some ⟨oc7, od7, .func (PySem.W.fnOf "_law_parted" "_law_parted" (defArgs (topS 10)) (defBody (topS 10)) (defScope (topS 10)) .none kV7 dc7 pm7 an7 cd7 ct7), sl7⟩) (c7 : PySem.W.codeIn K cd7 "_law_parted" = true) (k7 : PySem.W.keepIn K (.ref f7) = true)
  (a8 : PySem.W.nsIn K mainGlobals "_law_number" = some (some (.ref f8))) (l8 : K.lookup f8 = some ⟨oc8, od8, .func (PySem.W.fnOf "_law_number" "_law_number" (defArgs (topS 11)) (defBody (topS 11)) (defScope (topS 11)) .none kV8 dc8 pm8 an8 cd8 ct8), sl8⟩) (c8 : PySem.W.codeIn K cd8 "_law_number" = true) (k8 : PySem.W.keepIn K (.ref f8) = true)
  (a9 : PySem.W.nsIn K mainGlobals "_law_row_text" = some (some (.ref f9))) (l9 : K.lookup f9 = some ⟨oc9, od9, .func (PySem.W.fnOf "_law_row_text" "_law_row_text" (defArgs (topS 12)) (defBody (topS 12)) (defScope (topS 12)) .none kV9 dc9 pm9 an9 cd9 ct9), sl9⟩) (c9 : PySem.W.codeIn K cd9 "_law_row_text" = true) (k9 : PySem.W.keepIn K (.ref f9) = true)
  (a10 : PySem.W.nsIn K mainGlobals "_law_words_right" = some (some (.ref f10))) (l10 : K.lookup f10 = some ⟨oc10, od10, .func (PySem.W.fnOf "_law_words_right" "_law_words_right" (defArgs (topS 13)) (defBody (topS 13)) (defScope (topS 13)) .none kV10 dc10 pm10 an10 cd10 ct10), sl10⟩) (c10 : PySem.W.codeIn K cd10 "_law_words_right" = true) (k10 : PySem.W.keepIn K (.ref f10) = true)
  (a11 : PySem.W.nsIn K mainGlobals "law" = some (some (.ref f11))) (l11 : K.lookup f11 = some ⟨oc11, od11, .func (PySem.W.fnOf "law" "law" (defArgs (topS 14)) (defBody (topS 14)) (defScope (topS 14)) .none kV11 dc11 pm11 an11 cd11 ct11), sl11⟩) (c11 : PySem.W.codeIn K cd11 "law" = true) (k11 : PySem.W.keepIn K (.ref f11) = true)
  (g0a : PySem.W.nsIn K mainGlobals "FIGURES" = some (some gv0)) (g0k : conV gv0 (.str "0123456789") = true)
  (z0 : PySem.W.nsIn K mainGlobals "isinstance" = some none)
  (z1 : PySem.W.nsIn K mainGlobals "str" = some none)
  (z2 : PySem.W.nsIn K mainGlobals "len" = some none)
  (z3 : PySem.W.nsIn K mainGlobals "all" = some none)
  (z4 : PySem.W.nsIn K mainGlobals "int" = some none)
  (z5 : PySem.W.nsIn K mainGlobals "range" = some none)
  (z6 : PySem.W.nsIn K mainGlobals "enumerate" = some none)
  (z7 : PySem.W.nsIn K mainGlobals "repr" = some none) :
  Glob K mg G ∧ (∀ b ∈ bs, mg b = none) ∧ ∀ f e, T f = some e → ∀ base : Heap, Tied prog w K mg base T G bs f e := by
  refine ⟨glob_all ?_, none_all ?_, tied_all ?_⟩
  · exact GlobL.cons (glob_val (PySem.W.mg_of X Gn g0a) g0k) (GlobL.nil)
  · exact NoneL.cons (PySem.W.mg_none_of X Gn z0) (NoneL.cons (PySem.W.mg_none_of X Gn z1) (NoneL.cons (PySem.W.mg_none_of X Gn z2) (NoneL.cons (PySem.W.mg_none_of X Gn z3) (NoneL.cons (PySem.W.mg_none_of X Gn z4) (NoneL.cons (PySem.W.mg_none_of X Gn z5) (NoneL.cons (PySem.W.mg_none_of X Gn z6) (NoneL.cons (PySem.W.mg_none_of X Gn z7) (NoneL.nil))))))))
  · exact TiedL.cons (fun _ => tie_number_of (PySem.W.mg_of X Gn a0) (fun_mk (st := topS 2) l0 c0 k0)) (TiedL.cons (fun _ => tie_words_of (PySem.W.mg_of X Gn a1) (fun_mk (st := topS 3) l1 c1 k1)) (TiedL.cons (fun _ => tie__law_mixed (PySem.W.mg_of X Gn a2) (fun_mk (st := topS 5) l2 c2 k2)) (TiedL.cons (fun _ => tie__law_folded (PySem.W.mg_of X Gn a3) (fun_mk (st := topS 6) l3 c3 k3)) (TiedL.cons (fun _ => tie__law_draw (PySem.W.mg_of X Gn a4) (fun_mk (st := topS 7) l4 c4 k4)) (TiedL.cons (fun _ => tie__law_begun (PySem.W.mg_of X Gn a5) (fun_mk (st := topS 8) l5 c5 k5)) (TiedL.cons (fun _ => tie__law_words (PySem.W.mg_of X Gn a6) (fun_mk (st := topS 9) l6 c6 k6)) (TiedL.cons (fun _ => tie__law_parted (PySem.W.mg_of X Gn a7) (fun_mk (st := topS 10) l7 c7 k7)) (TiedL.cons (fun _ => tie__law_number (PySem.W.mg_of X Gn a8) (fun_mk (st := topS 11) l8 c8 k8)) (TiedL.cons (fun _ => tie__law_row_text (PySem.W.mg_of X Gn a9) (fun_mk (st := topS 12) l9 c9 k9)) (TiedL.cons (fun _ => tie__law_words_right (PySem.W.mg_of X Gn a10) (fun_mk (st := topS 13) l10 c10 k10)) (TiedL.cons (fun _ => tie_law (PySem.W.mg_of X Gn a11) (fun_mk (st := topS 14) l11 c11 k11)) (TiedL.nil))))))))))))
end Mi.K02
/-! P02: law k02, in plain Lean. -/
namespace Mi
open PySem PySem.Spec PyProof.Rows L2 TL
/-! ### words and blanks -/
theorem joinL_snoc (S : List Nat) (b : List Nat) : ∀ (A : List (List Nat)) (a : List Nat), joinL S (A ++ [a ++ b]) = joinL S (A ++ [a]) ++ b
  | [], a => rfl
  | [x], a => by simp [joinL]
  | x :: y :: A, a => by
    have := joinL_snoc S b (y :: A) a
    simp only [List.cons_append] at this ⊢
    simp only [joinL, this, List.append_assoc]
theorem joinL_new (S : List Nat) : ∀ (A : List (List Nat)) (a : List Nat), joinL S (A ++ [a] ++ [[]]) = joinL S (A ++ [a]) ++ S
  | [], a => by simp [joinL]
  | [x], a => by simp [joinL]
  | x :: y :: A, a => by
    have := joinL_new S (y :: A) a
    simp only [List.cons_append] at this ⊢
    simp only [joinL]
    rw [this]
    simp only [List.append_assoc]
theorem tl_inj {a b : Str} (h : tl a = tl b) : a = b := by
  have := map_tl_inj (l := [a]) (m := [b]) (by simp [h])
  simpa using this
theorem tl_bl : tl (" " : Str) = [32] := by decide
theorem split_of {x : Str} {P : List Str} (h0 : P ≠ []) (hp : ∀ p ∈ P, 32 ∉ tl p) (e : joinL [32] (P.map tl) = tl x) : Txt.split x " " = P := by
  have e2 : Txt.join " " P = x := by
    rw [join_eq]
    exact tl_inj (by rw [tl_join, tl_bl, e])
  rw [← e2]
  exact split_join tl_bl (by decide +kernel) h0 hp
/-- the words of a text, if there are -/
def wordsO (x : Str) : Option (List Str) := if ("" : Str) ∈ Txt.split x " " then none else some (Txt.split x " ")
def resW : Option (List Str) → D
  | none => .non
  | some l => .lst (l.map .str)
theorem inV_strs (x : Str) : ∀ ws : List Str, inV (.str x) (ws.map V.str) = decide (x ∈ ws)
  | [] => by simp [inV]
  | w :: ws => by
    show (eqV (V.str w) (V.str x) || inV (.str x) (ws.map V.str)) = _
    rw [inV_strs x ws]
    show ((w == x) || decide (x ∈ ws)) = _
    rw [Bool.eq_iff_iff]
    simp only [Bool.or_eq_true, beq_iff_eq, decide_eq_true_eq, List.mem_cons]
    constructor
    · rintro (h | h)
      · exact .inl h.symm
      · exact .inr h
    · rintro (h | h)
      · exact .inl h.symm
      · exact .inr h
def figs : List Nat := [48, 49, 50, 51, 52, 53, 54, 55, 56, 57]
theorem figs_eq : ("0123456789" : Str).cps.toList = figs := by decide
def valL (l : List Nat) : Int := l.foldl (fun a c => 10 * a + ((c - 48 : Nat) : Int)) 0
theorem valL_snoc (l : List Nat) (c : Nat) : valL (l ++ [c]) = 10 * valL l + ((c - 48 : Nat) : Int) := by unfold valL; rw [List.foldl_append]; rfl
theorem text1 : ∀ c ∈ figs, PySem.intText? ⟨#[c]⟩ = some (valL [c]) := by decide +kernel
theorem text2 : ∀ c ∈ figs, ∀ d ∈ figs, PySem.intText? ⟨#[c, d]⟩ = some (valL [c, d]) := by decide +kernel
theorem val_small1 : ∀ c ∈ figs, (valL [c]).natAbs < 10 ^ 12 := by decide +kernel
theorem val_small2 : ∀ c ∈ figs, ∀ d ∈ figs, (valL [c, d]).natAbs < 10 ^ 12 := by decide +kernel
theorem idx : ∀ c ∈ figs, indexF "0123456789" [.str ⟨#[c]⟩] = some (.dat (.int ((c - 48 : Nat) : Int))) := by
  intro c hc
  have : ∀ c ∈ figs, Builtin.Str.occurrences "0123456789" ⟨#[c]⟩ 0 ("0123456789" : Str).length 1 = [c - 48] := by decide +kernel
  simp only [indexF, this c hc]
/-- the number of a word, None of none -/
def numC (w : Str) : Bool := (decide (1 ≤ w.length) && decide (w.length ≤ 2)) && w.cps.toList.all (fun c => decide (c ∈ figs)) && !(decide (w.length = 2) && decide (w.cps.toList.head? = some 48))
def numW (w : Str) : D := if numC w then .int (valL w.cps.toList) else .non
def numD : D → D
  | .str w => numW w
  | _ => .non
theorem numW_one {c : Nat} (hf : c ∈ figs) : numW ⟨#[c]⟩ = .int (valL [c]) := by
  have : numC ⟨#[c]⟩ = true := by
    show ((true && true) && ([c].all fun c => decide (c ∈ figs)) && !(false && _)) = true
    simp [hf]
  unfold numW
  rw [if_pos this]
theorem numW_two {c d : Nat} (hf : c ∈ figs) (hg : d ∈ figs) : numW ⟨#[c, d]⟩ = if c = 48 then .non else .int (valL [c, d]) := by
  have : numC ⟨#[c, d]⟩ = !decide (c = 48) := by
    show ((true && true) && ([c, d].all fun c => decide (c ∈ figs)) && !(true && decide (some c = some 48))) = _
    simp [hf, hg]
  unfold numW
  rw [this]
  by_cases q : c = 48
  · rw [if_pos q, decide_eq_true q]; rfl
  · rw [if_neg q, decide_eq_false q]; rfl
theorem numW_no {w : Str} (h : (decide (1 ≤ w.length) && decide (w.length ≤ 2)) = false ∨ w.cps.toList.all (fun c => decide (c ∈ figs)) = false) : numW w = .non := by
  have : numC w = false := by
    unfold numC
    rcases h with h | h <;> rw [h] <;> simp
  unfold numW
  rw [this]; rfl
theorem w_ix0 {c d : Nat} {h : Hh} {Q : R → Hh → Prop} (p : Q (.dat (.str ⟨#[c]⟩)) h) : ev (ofR h (ixF h (.dat (.str ⟨#[c, d]⟩)) (.dat (.int 0))) .dat) Q := by
  have e : ixF h (.dat (.str ⟨#[c, d]⟩)) (.dat (.int 0)) = (if (⟨#[c, d]⟩ : Str).length ≤ sizeLine then (atI [c, d] 0).map (fun c => D.str ⟨#[c]⟩) else none) := rfl
  have l : (⟨#[c, d]⟩ : Str).length ≤ sizeLine := by show 2 ≤ sizeLine; decide
  rw [if_pos l] at e
  exact w_ofR e p
theorem eq_zero (c : Nat) : decide ((⟨#[c]⟩ : Str) = "0") = decide (c = 48) := by
  rw [Bool.eq_iff_iff, decide_eq_true_eq, decide_eq_true_eq]
  constructor
  · intro h
    have := congrArg tl h
    have e : tl ("0" : Str) = [48] := by decide
    rw [e] at this
    simpa [tl] using this
  · rintro rfl; rfl
theorem len_two {l : List Nat} (h : l.length = 2) : ∃ c d, l = [c, d] := by
  match l, h with
  | [c, d], _ => exact ⟨c, d, rfl⟩
section
variable {h : Hh} {Q : R → Hh → Prop}
theorem w_splitB {a : Str} (z : a.length ≤ 20000) (p : Q (.new ((Txt.split a " ").map .str)) h) : ev (Res.of h (mthF .split a [.str " "])) Q := by
  refine w_of (a := .new ((Txt.split a " ").map .str)) ?_ p
  show (if ((" " : Str).length == 0) = false ∧ a.length + 2 ≤ sizeLine then some _ else none) = _
  rw [if_pos ⟨by decide, by rw [sizeLine_eq]; omega⟩]
theorem w_inB {x : Str} {ws : List Str} (p : Q (.dat (.bl (decide (x ∈ ws)))) h) : ev (ofR h (cmpF h .isin (.dat (.str x)) (.bor (ws.map .str))) fun b => R.dat (.bl b)) Q := by
  refine w_inS (ws := ws) rfl (fun _ z => by cases z) ?_
  rw [inV_strs]
  exact p
theorem w_mulS {a : Str} {k : Nat} (h1 : k ≤ big) (z : a.length * k ≤ big) (p : Q (.dat (.str (repS a k))) h) : ev (Res.of h (binF h .mul (.dat (.str a)) (.dat (.int ((k : Nat) : Int))))) Q := by
  have e : binF h .mul (.dat (.str a)) (.dat (.int ((k : Nat) : Int))) = (if -(2 ^ 63) ≤ ((k : Nat) : Int) ∧ ((k : Nat) : Int) < 2 ^ 63 ∧ a.length * ((k : Nat) : Int).toNat ≤ sizeLine then some (.dat (.str (repS a ((k : Nat) : Int).toNat))) else none) := rfl
  rw [e]
  rw [big_eq] at h1 z
  have e1 : ((k : Nat) : Int) < 2 ^ 63 := Int.lt_of_lt_of_le (Int.ofNat_lt.mpr (Nat.lt_succ_of_le h1)) (by decide)
  rw [Int.toNat_natCast, if_pos ⟨negN, e1, by rw [sizeLine_eq]; omega⟩]
  exact p
theorem w_toStr {i : Int} (z : i.natAbs.log2 < 1920) (p : Q (.dat (.str (toString i))) h) : ev (Res.of h (bltF h .toStr [.int i])) Q := by
  refine w_of (a := .dat (.str (toString i))) ?_ p
  show (if i.natAbs.log2 < 1920 then _ else _) = _
  rw [if_pos z]
theorem Wd.rep {k : Nat} {a : Str} (w : Wd k a) (n : Nat) : Wd (k * n) (repS a n) := by
  refine ⟨by rw [repS_len]; exact Nat.mul_le_mul_right n w.1, fun c hc => ?_⟩
  rw [repS_eq] at hc
  have hc : c ∈ (List.replicate n a.cps.toList).flatten := hc
  obtain ⟨l, hl, hc⟩ := List.mem_flatten.mp hc
  rw [List.eq_of_mem_replicate hl] at hc
  exact w.2 c hc
end
theorem ifN2 (p : Bool) : ∃ k : Nat, k ≤ 1 ∧ (if p = true then (1 : Int) else 0) = (k : Nat) ∧ (k = 1 ↔ p = true) := by
  cases p
  · exact ⟨0, by omega, rfl, by simp⟩
  · exact ⟨1, by omega, rfl, by simp⟩
namespace K02
local macro_rules | `(tactic| walk_at "run") => `(tactic| repeat (first
  | with_reducible refine w_notT ?_ | with_reducible refine w_notF ?_
  | with_reducible refine w_con ?_ | ((with_reducible refine' w_var ?e ?_); case e => rfl)
  | with_reducible refine w_bin ?_ | with_reducible refine w_fzD ?_ | with_reducible refine w_bind ?_ | with_reducible refine w_ok ?_
  | with_reducible refine w_addI ?_ | with_reducible refine w_subI ?_
  | with_reducible refine w_cons ?_ | with_reducible refine w_nil ?_ | with_reducible refine w_call ?_
  | with_reducible refine v_cons ?_ | ((with_reducible refine v_contN ?_); try simp only [setV, List.set_cons_succ, List.set_cons_zero]) | with_reducible refine v_contR ?_ | with_reducible refine v_asg ?_ | with_reducible refine v_ret ?_ | with_reducible refine v_retD ?_ | with_reducible refine v_endR ?_
  | with_reducible refine v_nil ?_ | with_reducible refine v_ifs ?_ | with_reducible refine w_brt ?_ | with_reducible refine w_brf ?_
  | with_reducible refine w_and ?_ | with_reducible refine w_or ?_ | with_reducible refine w_not ?_ | with_reducible refine w_notR ?_ | with_reducible refine w_ite ?_
  | with_reducible refine w_cmp ?_ | with_reducible refine w_chain ?_ | with_reducible refine w_ltI ?_ | with_reducible refine w_leI ?_ | with_reducible refine w_gtI ?_ | with_reducible refine w_geI ?_ | with_reducible refine w_eqI ?_
  | with_reducible refine w_isi ?_ | with_reducible refine w_blt ?_ | with_reducible refine w_ix ?_ | with_reducible refine w_dget ?_
  | ((with_reducible refine' w_modI ?e ?_); case e => (first | decide | omega))
  | ((with_reducible refine' w_fdivI ?e ?_); case e => (first | decide | omega))
  | ((with_reducible refine' w_mulI ?e ?_); case e => (first | exact near_r (by decide) | exact near_l (by decide) | exact near_ro (by omega) (by omega) | exact near_lo (by omega) (by omega)))
  | ((with_reducible refine' w_powI ?e ?_); case e => decide)
  | with_reducible refine w_neg ?_ | with_reducible refine w_negI ?_
  | with_reducible refine w_tup ?_ | with_reducible refine w_lst ?_ | ((with_reducible refine' w_lenR ?e ?_); case e => (first | decide | (simp only [List.length_cons, List.length_nil, Nat.zero_add, Nat.reduceAdd]; decide)))
  | with_reducible refine w_fzN ?_ | ((with_reducible refine' w_glo ?e ?_); case e => (first | assumption | rfl))
  | with_reducible refine w_sl ?_ | with_reducible refine w_ono ?_ | with_reducible refine w_opart ?_ | with_reducible refine w_intR ?_ | with_reducible refine w_strR ?_ | with_reducible refine w_tupR ?_ | with_reducible refine w_newR ?_ | ((with_reducible refine' w_optR ?e ?_); case e => rfl)
  | with_reducible refine w_mth ?_ | with_reducible refine w_comp ?_ | with_reducible refine w_seq ?_ | with_reducible refine w_rng1 ?_ | with_reducible refine w_rng2 ?_ | with_reducible refine w_rng3 ?_ | with_reducible refine w_enum ?_ | ((with_reducible refine' w_rng1R ?e ?_); case e => exact rng_ok1 (by omega) (by omega)) | ((with_reducible refine' w_rngR ?e ?_); case e => exact rng_ok2 (by omega) (by omega) (by omega) (by omega)) | ((with_reducible refine' w_rngD ?e ?_); case e => exact rng_ok2 (by omega) (by omega) (by omega) (by omega))
  | with_reducible refine w_promo ?_ | with_reducible refine w_proN ?_ | with_reducible refine w_proD ?_ | with_reducible refine w_dct ?_ | ((with_reducible refine' w_dctR ?e ?_); case e => decide)
  | with_reducible refine v_own ?_ | with_reducible refine v_any ?_ | with_reducible refine v_anyN ?_ | with_reducible refine v_anyD ?_ | with_reducible refine w_blt1 ?_ | with_reducible refine v_asgs ?_ | with_reducible refine v_setL ?_ | with_reducible refine v_setD ?_ | with_reducible refine v_setOwn ?_ | ((with_reducible refine' v_ownR ?e ?_); case e => rfl)
  | ((with_reducible refine' v_app ?e ?_); case e => rfl) | ((with_reducible refine' v_ext ?e ?_); case e => rfl) | with_reducible refine v_expr ?_ | with_reducible refine v_for ?_ | with_reducible refine v_whl ?_
  | ((with_reducible refine' v_retV ?e ?_); case e => rfl) | with_reducible refine v_retn ?_ | with_reducible refine v_pass ?_ | with_reducible refine v_brk ?_ | with_reducible refine v_cnt ?_ | ((with_reducible refine' v_frz ?e ?_); case e => rfl)
  | with_reducible refine v_contB ?_ | with_reducible refine v_contC ?_ | with_reducible refine v_retN ?_ | with_reducible refine v_endN ?_ | with_reducible refine w_compG ?_
  | ((with_reducible refine' w_varO ?e ?_); case e => rfl)
  | ((with_reducible refine' w_dgetK ?e ?q ?_); (case e => first | assumption | rfl); (case q => rfl); (try dsimp only))
  | with_reducible refine w_lenT ?_ | with_reducible refine w_lenLs ?_ | with_reducible refine w_slT ?_ | with_reducible refine w_slL ?_ | with_reducible refine w_tupN ?_ | with_reducible refine w_seqT ?_ | with_reducible refine w_seqL ?_ | with_reducible refine w_seqN ?_ | with_reducible refine w_intB ?_ | with_reducible refine w_intI ?_ | with_reducible refine w_neI ?_
  | with_reducible refine w_isi_int_non ?_ | with_reducible refine w_isi_int_bl ?_ | with_reducible refine w_isi_int_int ?_ | with_reducible refine w_isi_int_str ?_ | with_reducible refine w_isi_int_tup ?_ | with_reducible refine w_isi_int_lst ?_ | with_reducible refine w_isi_bool_non ?_ | with_reducible refine w_isi_bool_bl ?_ | with_reducible refine w_isi_bool_int ?_ | with_reducible refine w_isi_bool_str ?_ | with_reducible refine w_isi_bool_tup ?_ | with_reducible refine w_isi_bool_lst ?_ | with_reducible refine w_isi_str_non ?_ | with_reducible refine w_isi_str_bl ?_ | with_reducible refine w_isi_str_int ?_ | with_reducible refine w_isi_str_str ?_ | with_reducible refine w_isi_str_tup ?_ | with_reducible refine w_isi_str_lst ?_ | with_reducible refine w_isi_tuple_non ?_ | with_reducible refine w_isi_tuple_bl ?_ | with_reducible refine w_isi_tuple_int ?_ | with_reducible refine w_isi_tuple_str ?_ | with_reducible refine w_isi_tuple_tup ?_ | with_reducible refine w_isi_tuple_lst ?_ | with_reducible refine w_isi_list_non ?_ | with_reducible refine w_isi_list_bl ?_ | with_reducible refine w_isi_list_int ?_ | with_reducible refine w_isi_list_str ?_ | with_reducible refine w_isi_list_tup ?_ | with_reducible refine w_isi_list_lst ?_
  | ((with_reducible refine' w_ixT ?e ?_); case e => rfl)
  | ((with_reducible refine' w_brd ?e ?_); case e => omega)
  | ((with_reducible refine' w_brn ?e ?_); case e => omega)
  | ((with_reducible refine' w_brnd ?e ?_); case e => omega)
  | ((with_reducible refine' w_brnn ?e ?_); case e => omega)
  | ((with_reducible refine' w_brp ?e ?_); case e => assumption)
  | ((with_reducible refine' w_brq ?e ?_); case e => assumption)))
local macro_rules | `(tactic| walk_at "one") => `(tactic| (first
  | with_reducible refine w_notT ?_ | with_reducible refine w_notF ?_
  | with_reducible refine w_con ?_ | ((with_reducible refine' w_var ?e ?_); case e => rfl)
  | with_reducible refine w_bin ?_ | with_reducible refine w_fzD ?_ | with_reducible refine w_bind ?_ | with_reducible refine w_ok ?_
  | with_reducible refine w_addI ?_ | with_reducible refine w_subI ?_
  | with_reducible refine w_cons ?_ | with_reducible refine w_nil ?_ | with_reducible refine w_call ?_
  | with_reducible refine v_cons ?_ | ((with_reducible refine v_contN ?_); try simp only [setV, List.set_cons_succ, List.set_cons_zero]) | with_reducible refine v_contR ?_ | with_reducible refine v_asg ?_ | with_reducible refine v_ret ?_ | with_reducible refine v_retD ?_ | with_reducible refine v_endR ?_
  | with_reducible refine v_nil ?_ | with_reducible refine v_ifs ?_ | with_reducible refine w_brt ?_ | with_reducible refine w_brf ?_
  | with_reducible refine w_and ?_ | with_reducible refine w_or ?_ | with_reducible refine w_not ?_ | with_reducible refine w_notR ?_ | with_reducible refine w_ite ?_
  | with_reducible refine w_cmp ?_ | with_reducible refine w_chain ?_ | with_reducible refine w_ltI ?_ | with_reducible refine w_leI ?_ | with_reducible refine w_gtI ?_ | with_reducible refine w_geI ?_ | with_reducible refine w_eqI ?_
  | with_reducible refine w_isi ?_ | with_reducible refine w_blt ?_ | with_reducible refine w_ix ?_ | with_reducible refine w_dget ?_
  | ((with_reducible refine' w_modI ?e ?_); case e => (first | decide | omega))
  | ((with_reducible refine' w_fdivI ?e ?_); case e => (first | decide | omega))
  | ((with_reducible refine' w_mulI ?e ?_); case e => (first | exact near_r (by decide) | exact near_l (by decide) | exact near_ro (by omega) (by omega) | exact near_lo (by omega) (by omega)))
  | ((with_reducible refine' w_powI ?e ?_); case e => decide)
  | with_reducible refine w_neg ?_ | with_reducible refine w_negI ?_
  | with_reducible refine w_tup ?_ | with_reducible refine w_lst ?_ | ((with_reducible refine' w_lenR ?e ?_); case e => (first | decide | (simp only [List.length_cons, List.length_nil, Nat.zero_add, Nat.reduceAdd]; decide)))
  | with_reducible refine w_fzN ?_ | ((with_reducible refine' w_glo ?e ?_); case e => (first | assumption | rfl))
  | with_reducible refine w_sl ?_ | with_reducible refine w_ono ?_ | with_reducible refine w_opart ?_ | with_reducible refine w_intR ?_ | with_reducible refine w_strR ?_ | with_reducible refine w_tupR ?_ | with_reducible refine w_newR ?_ | ((with_reducible refine' w_optR ?e ?_); case e => rfl)
  | with_reducible refine w_mth ?_ | with_reducible refine w_comp ?_ | with_reducible refine w_seq ?_ | with_reducible refine w_rng1 ?_ | with_reducible refine w_rng2 ?_ | with_reducible refine w_rng3 ?_ | with_reducible refine w_enum ?_ | ((with_reducible refine' w_rng1R ?e ?_); case e => exact rng_ok1 (by omega) (by omega)) | ((with_reducible refine' w_rngR ?e ?_); case e => exact rng_ok2 (by omega) (by omega) (by omega) (by omega)) | ((with_reducible refine' w_rngD ?e ?_); case e => exact rng_ok2 (by omega) (by omega) (by omega) (by omega))
  | with_reducible refine w_promo ?_ | with_reducible refine w_proN ?_ | with_reducible refine w_proD ?_ | with_reducible refine w_dct ?_ | ((with_reducible refine' w_dctR ?e ?_); case e => decide)
  | with_reducible refine v_own ?_ | with_reducible refine v_any ?_ | with_reducible refine v_anyN ?_ | with_reducible refine v_anyD ?_ | with_reducible refine w_blt1 ?_ | with_reducible refine v_asgs ?_ | with_reducible refine v_setL ?_ | with_reducible refine v_setD ?_ | with_reducible refine v_setOwn ?_ | ((with_reducible refine' v_ownR ?e ?_); case e => rfl)
  | ((with_reducible refine' v_app ?e ?_); case e => rfl) | ((with_reducible refine' v_ext ?e ?_); case e => rfl) | with_reducible refine v_expr ?_ | with_reducible refine v_for ?_ | with_reducible refine v_whl ?_
  | ((with_reducible refine' v_retV ?e ?_); case e => rfl) | with_reducible refine v_retn ?_ | with_reducible refine v_pass ?_ | with_reducible refine v_brk ?_ | with_reducible refine v_cnt ?_ | ((with_reducible refine' v_frz ?e ?_); case e => rfl)
  | with_reducible refine v_contB ?_ | with_reducible refine v_contC ?_ | with_reducible refine v_retN ?_ | with_reducible refine v_endN ?_ | with_reducible refine w_compG ?_
  | ((with_reducible refine' w_varO ?e ?_); case e => rfl)
  | ((with_reducible refine' w_dgetK ?e ?q ?_); (case e => first | assumption | rfl); (case q => rfl); (try dsimp only))
  | with_reducible refine w_lenT ?_ | with_reducible refine w_lenLs ?_ | with_reducible refine w_slT ?_ | with_reducible refine w_slL ?_ | with_reducible refine w_tupN ?_ | with_reducible refine w_seqT ?_ | with_reducible refine w_seqL ?_ | with_reducible refine w_seqN ?_ | with_reducible refine w_intB ?_ | with_reducible refine w_intI ?_ | with_reducible refine w_neI ?_
  | with_reducible refine w_isi_int_non ?_ | with_reducible refine w_isi_int_bl ?_ | with_reducible refine w_isi_int_int ?_ | with_reducible refine w_isi_int_str ?_ | with_reducible refine w_isi_int_tup ?_ | with_reducible refine w_isi_int_lst ?_ | with_reducible refine w_isi_bool_non ?_ | with_reducible refine w_isi_bool_bl ?_ | with_reducible refine w_isi_bool_int ?_ | with_reducible refine w_isi_bool_str ?_ | with_reducible refine w_isi_bool_tup ?_ | with_reducible refine w_isi_bool_lst ?_ | with_reducible refine w_isi_str_non ?_ | with_reducible refine w_isi_str_bl ?_ | with_reducible refine w_isi_str_int ?_ | with_reducible refine w_isi_str_str ?_ | with_reducible refine w_isi_str_tup ?_ | with_reducible refine w_isi_str_lst ?_ | with_reducible refine w_isi_tuple_non ?_ | with_reducible refine w_isi_tuple_bl ?_ | with_reducible refine w_isi_tuple_int ?_ | with_reducible refine w_isi_tuple_str ?_ | with_reducible refine w_isi_tuple_tup ?_ | with_reducible refine w_isi_tuple_lst ?_ | with_reducible refine w_isi_list_non ?_ | with_reducible refine w_isi_list_bl ?_ | with_reducible refine w_isi_list_int ?_ | with_reducible refine w_isi_list_str ?_ | with_reducible refine w_isi_list_tup ?_ | with_reducible refine w_isi_list_lst ?_
  | ((with_reducible refine' w_ixT ?e ?_); case e => rfl)
  | ((with_reducible refine' w_brd ?e ?_); case e => omega)
  | ((with_reducible refine' w_brn ?e ?_); case e => omega)
  | ((with_reducible refine' w_brnd ?e ?_); case e => omega)
  | ((with_reducible refine' w_brnn ?e ?_); case e => omega)
  | ((with_reducible refine' w_brp ?e ?_); case e => assumption)
  | ((with_reducible refine' w_brq ?e ?_); case e => assumption)))

section
variable {n : Nat} {h : Hh}
theorem splitWd {k : Nat} {x : Str} (w : Wd k x) : ∀ p ∈ Txt.split x " ", PyData.strOk p = true := by
  have e := PySem.StrLaws.join_split x " "
  have sub : ∀ (S : List Nat) (A : List (List Nat)) (a : List Nat), a ∈ A → ∀ c ∈ a, c ∈ joinL S A := by
    intro S A
    induction A with
    | nil => intro a ha; cases ha
    | cons x A ih =>
      intro a ha c hc
      cases A with
      | nil => rw [List.mem_singleton.mp ha] at hc; exact hc
      | cons y A =>
        simp only [joinL]
        rcases List.mem_cons.mp ha with rfl | ha
        · exact List.mem_append_left _ hc
        · exact List.mem_append_right _ (List.mem_append_right _ (ih a ha c hc))
  intro p hp
  unfold PyData.strOk
  rw [Array.all_eq_true']
  intro c hc
  have h1 : c ∈ joinL (tl " ") ((Txt.split x " ").map tl) := sub _ _ (tl p) (List.mem_map_of_mem hp) c (by simpa [tl] using hc)
  rw [← tl_join, e] at h1
  have := w.2 c (by simpa [tl] using h1)
  simpa using this
theorem words_of_ok {x : Str} (w : Wd 20000 x) : run T G (n + 1) "words_of" [.str x] h = .ok (match wordsO x with | none => .dat .non | some l => .new (l.map .str)) h := by
  refine ev_eq (v_run T_words_of rfl ?_)
  unfold f_words_of b_words_of
  simp only [Fn.env, List.map_cons, List.map_nil, Nat.reduceSub, List.replicate_succ, List.replicate_zero, List.cons_append, List.nil_append]
  walk_at "run"
  refine w_splitB w.1 ?_
  walk_at "run"
  refine w_inB ?_
  refine ev_br (fun q => ?_) (fun q => ?_)
  · walk_at "run"
    refine ⟨?_, rfl⟩
    unfold wordsO
    rw [if_pos (of_decide_eq_true q)]
  · walk_at "run"
    refine ⟨?_, rfl⟩
    unfold wordsO
    rw [if_neg (of_decide_eq_false q)]
theorem words_of_no {d : D} (s : seen h d = true) (z : isStr d = false) : run T G (n + 1) "words_of" [d] h = .ok (.dat .non) h := by
  refine ev_eq (v_run T_words_of rfl ?_)
  unfold f_words_of b_words_of
  simp only [Fn.env, List.map_cons, List.map_nil, Nat.reduceSub, List.replicate_succ, List.replicate_zero, List.cons_append, List.nil_append]
  walk_at "run"
  refine w_isS s ?_
  rw [z]
  walk_at "run"
  exact ⟨rfl, rfl⟩
theorem parted_no {d : D} (s : seen h d = true) (z : isStr d = false) : run T G (n + 1) "_law_parted" [d] h = .ok (.dat .non) h := by
  refine ev_eq (v_run T__law_parted rfl ?_)
  unfold f__law_parted b__law_parted
  simp only [Fn.env, List.map_cons, List.map_nil, Nat.reduceSub, List.replicate_succ, List.replicate_zero, List.cons_append, List.nil_append]
  walk_at "run"
  refine w_isS s ?_
  rw [z]
  walk_at "run"
  exact ⟨rfl, rfl⟩
theorem tl_one (c : Nat) : tl ⟨#[c]⟩ = [c] := rfl
theorem parted_ok {x : Str} (w : Wd 19000 x) : run T G (n + 1) "_law_parted" [.str x] h = .ok (.dat (resW (wordsO x))) h := by
  refine ev_eq (v_run T__law_parted rfl ?_)
  unfold f__law_parted b__law_parted
  simp only [Fn.env, List.map_cons, List.map_nil, Nat.reduceSub, List.replicate_succ, List.replicate_zero, List.cons_append, List.nil_append]
  walk_at "run"
  refine w_of rfl ?_
  walk_at "run"
  refine w_addS (a := 19000) (b := 1) w (Wd.of (by decide)) (by rw [sizeLine_eq]; omega) fun w1 => ?_
  refine w_of (a := signsL (x ++ " ")) rfl ?_
  have hL : x.cps.toList.length = x.length := by simp [Str.length]
  have w1l := w.1
  have es : signsL (x ++ " ") = (tl x ++ [32]).map fun c => .str ⟨#[c]⟩ := by
    unfold signsL
    rw [show (x ++ " ").cps.toList = tl x ++ [32] from tl_append x " "]
  have hT : (tl x).length = x.length := hL
  rw [es]
  have hG : ∀ i : Nat, ((tl x ++ [32]).map fun c => D.str ⟨#[c]⟩)[i]? = ((tl x ++ [32])[i]?).map fun c => D.str ⟨#[c]⟩ := fun i => List.getElem?_map
  have hlen : ((tl x ++ [32]).map fun c => D.str ⟨#[c]⟩).length = x.length + 1 := by rw [List.length_map, List.length_append, hT]; rfl
  refine ev_for (fun i e g => g = h ∧ ∃ (P : List Str) (v : Str) (s3 : Slot), e = [.val (.str x), .own (P.map .str), .val (.str v), s3, .un] ∧ (∀ p ∈ P, 32 ∉ tl p) ∧ 32 ∉ tl v ∧ P.length ≤ i ∧ Wd i v ∧
      ((i ≤ x.length ∧ joinL [32] (P.map tl ++ [tl v]) = (tl x).take i) ∨ (i = x.length + 1 ∧ P ≠ [] ∧ joinL [32] (P.map tl) = tl x)))
    ⟨rfl, [], "", _, rfl, by simp, by decide +kernel, Nat.le_refl _, Wd.of (by decide +kernel), .inl ⟨Nat.zero_le _, by rw [List.take_zero]; decide +kernel⟩⟩ ?_ ?_
  · rintro i d e g hd ⟨rfl, P, v, s3, rfl, a1, a2, a3, a4, a5⟩
    have hi : i < x.length + 1 := by
      have := (List.getElem?_eq_some_iff.mp hd).1
      rw [hlen] at this; exact this
    obtain ⟨a5, a6⟩ : i ≤ x.length ∧ joinL [32] (P.map tl ++ [tl v]) = (tl x).take i := by
      rcases a5 with a5 | a5
      · exact a5
      · omega
    rw [hG] at hd
    have hlt : i < (tl x ++ [32]).length := by rw [List.length_append, hT]; exact hi
    rw [List.getElem?_eq_getElem hlt] at hd
    obtain ⟨c, hc⟩ : ∃ c, c = (tl x ++ [32])[i] := ⟨_, rfl⟩
    rw [← hc] at hd
    cases hd
    refine ⟨_, rfl, ?_⟩
    have z1 : P.length < sizeLine := by rw [sizeLine_eq]; omega
    by_cases q : c = 32
    · subst q
      walk_at "run"
      refine w_eqS ?_
      rw [show decide ((⟨#[32]⟩ : Str) = " ") = true from by decide]
      walk_at "run"
      have z2 : (P.map D.str).length < sizeLine := by rw [List.length_map]; exact z1
      with_reducible refine v_appR z2 ?_
      walk_at "run"
      refine w_eqS ?_
      rw [show decide ((⟨#[32]⟩ : Str) = " ") = true from by decide]
      walk_at "run"
      refine ⟨rfl, P ++ [v], "", _, by rw [List.map_append]; rfl, fun p hp => ?_, by decide +kernel, by rw [List.length_append]; simp; exact a3, (Wd.of (k := 0) (by decide +kernel)).le (by omega), ?_⟩
      · rcases List.mem_append.mp hp with z | z
        · exact a1 p z
        · rw [List.mem_singleton.mp z]; exact a2
      · by_cases hx : i = x.length
        · right
          refine ⟨by omega, by simp, ?_⟩
          rw [List.map_append]
          show joinL [32] (P.map tl ++ [tl v]) = _
          rw [a6, List.take_of_length_le (by omega)]
        · left
          refine ⟨by omega, ?_⟩
          rw [List.map_append]
          show joinL [32] (P.map tl ++ [tl v] ++ [[]]) = _
          rw [joinL_new, a6]
          have hi2 : i < (tl x).length := by omega
          rw [List.getElem_append_left hi2] at hc
          rw [List.take_succ_eq_append_getElem hi2, ← hc]
    · have hx : i < x.length := by
        refine Nat.lt_of_le_of_ne a5 fun z => ?_
        rw [List.getElem_append_right (by omega)] at hc
        simp only [hT, z, Nat.sub_self] at hc
        exact q hc
      have hi2 : i < (tl x).length := by omega
      have hne : decide ((⟨#[c]⟩ : Str) = " ") = false := decide_eq_false fun z => by
        have := congrArg tl z
        rw [tl_bl] at this
        exact q (by simpa [tl] using this)
      walk_at "run"
      refine w_eqS ?_
      rw [hne]
      walk_at "run"
      refine w_eqS ?_
      rw [hne]
      walk_at "run"
      have wc : Wd 1 ⟨#[c]⟩ := w.one (by
        rw [List.getElem_append_left hi2] at hc
        rw [hc]
        exact List.getElem_mem hi2)
      refine w_addS (a := i) (b := 1) a4 wc (by rw [sizeLine_eq]; omega) fun w3 => ?_
      walk_at "run"
      refine ⟨rfl, P, v ++ ⟨#[c]⟩, _, rfl, a1, fun z => ?_, by omega, w3, .inl ⟨by omega, ?_⟩⟩
      · rw [tl_append] at z
        rcases List.mem_append.mp z with z | z
        · exact a2 z
        · exact q (List.mem_singleton.mp z).symm
      · rw [tl_append, tl_one, joinL_snoc, a6]
        rw [List.getElem_append_left hi2] at hc
        rw [List.take_succ_eq_append_getElem hi2, ← hc]
  · rintro e g ⟨rfl, P, v, s3, rfl, a1, a2, a3, a4, a5⟩
    rw [hlen] at a3 a5
    obtain ⟨_, p0, pe⟩ : x.length + 1 = x.length + 1 ∧ P ≠ [] ∧ joinL [32] (P.map tl) = tl x := by
      rcases a5 with a5 | a5
      · omega
      · exact a5
    have hs : Txt.split x " " = P := split_of p0 a1 pe
    have okP : ∀ p ∈ P, PyData.strOk p = true := by rw [← hs]; exact splitWd w
    walk_at "run"
    have fact : compR (run T G n) G [4] (.nm 4) (.cmp .eq (.var 4) (.con (.str ""))) (.var 4) [.val (.str x), .val (.lst (P.map .str)), .val (.str v), s3, .un] (P.map .str) g =
        .ok (.new ((P.filter fun p : Str => decide (p = "")).map .str)) g := by
      unfold compR
      rw [comp_filter (fun d => match d with | .str s => decide (s = "") | _ => false) id (by rw [List.length_nil, Nat.zero_add, List.length_map, sizeLine_eq]; omega) fun d hd => ?_]
      · rw [List.nil_append, List.map_id, List.filter_map]; rfl
      · obtain ⟨p, hp, rfl⟩ := List.mem_map.mp hd
        refine ev_eq ?_
        show ev (compG _ _ _ _ _ g) _
        walk_at "run"
        refine w_eqS ?_
        refine ev_br (fun q => ?_) (fun q => ?_)
        · walk_at "run"
          refine ⟨?_, rfl⟩
          show some (D.str p) = if decide (p = "") = true then _ else _
          rw [q]; rfl
        · walk_at "run"
          refine ⟨?_, rfl⟩
          show none = if decide (p = "") = true then _ else _
          rw [q]; rfl
    refine ev_of fact ?_
    walk_at "run"
    refine w_neP (x := .new _) (y := .new []) (Pl.le (Pl.lst (k := 1) fun d hd => ?_) (by omega)) (Pl.le (Pl.lst (k := 1) (by simp)) (by omega)) ?_
    · obtain ⟨p, hp, rfl⟩ := List.mem_map.mp hd
      exact .str (okP p (List.mem_filter.mp hp).1)
    by_cases q : ("" : Str) ∈ P
    · have : (P.filter fun p : Str => decide (p = "")) ≠ [] := fun z => by
        rw [List.filter_eq_nil_iff] at z
        exact z "" q (decide_eq_true rfl)
      rw [show decide ((R.new ((P.filter fun p : Str => decide (p = "")).map D.str)).d = (R.new []).d) = false from decide_eq_false (by simp [R.d]; simpa using this)]
      walk_at "run"
      refine ⟨?_, rfl⟩
      unfold wordsO
      rw [hs, if_pos q]; rfl
    · have : (P.filter fun p : Str => decide (p = "")) = [] := by
        rw [List.filter_eq_nil_iff]
        intro p hp z
        exact q (by rw [← of_decide_eq_true z]; exact hp)
      rw [this]
      rw [show decide ((R.new (([] : List Str).map D.str)).d = (R.new []).d) = true from decide_eq_true rfl]
      walk_at "run"
      refine ⟨?_, rfl⟩
      unfold wordsO
      rw [hs, if_neg q]; rfl
theorem number_of_ok {d : D} (s : seen h d = true) (hw : ∀ w, d = .str w → Wd 19000 w) : run T G (n + 1) "number_of" [d] h = .ok (.dat (numD d)) h := by
  refine ev_eq (v_run T_number_of rfl ?_)
  unfold f_number_of b_number_of
  simp only [Fn.env, List.map_cons, List.map_nil, Nat.reduceSub, List.replicate_succ, List.replicate_zero, List.cons_append, List.nil_append]
  walk_at "run"
  refine w_isS s ?_
  by_cases hd : isStr d = true
  · cases d with
    | str w =>
      have wd := hw w rfl
      show ev (notR (.dat (.bl true)) _) _
      walk_at "run"
      refine w_lenS wd (by rw [sizeLine_eq]; omega) ?_
      walk_at "run"
      have no : ∀ {g : Hh}, ((decide (1 ≤ w.length) && decide (w.length ≤ 2)) = false ∨ w.cps.toList.all (fun c => decide (c ∈ figs)) = false) → g = h → R.dat D.non = .dat (numD (.str w)) ∧ g = h := by
        rintro g e rfl
        exact ⟨by show _ = R.dat (numW w); rw [numW_no e], rfl⟩
      refine ev_br (fun h1 => ?_) (fun h1 => ?_)
      · have h1 : (1 : Int) ≤ w.length := of_decide_eq_true h1
        walk_at "run"
        refine ev_br (fun h2 => ?_) (fun h2 => ?_)
        · walk_at "run"
          have h2 : ¬ (w.length : Int) ≤ 2 := by simpa using h2
          exact no (.inl (by rw [decide_eq_false (by omega : ¬ w.length ≤ 2)]; simp)) rfl
        · have h2 : (w.length : Int) ≤ 2 := by simpa using h2
          walk_at "run"
          refine w_of (a := signsL w) rfl ?_
          have em : signsL w = w.cps.toList.map fun c => .str ⟨#[c]⟩ := rfl
          have hlen : w.cps.toList.length = w.length := by simp [Str.length]
          have fact : compR (run T G n) G [1] (.nm 1) (.con (.bl true)) (.cmp .isin (.var 1) (.glo "FIGURES")) [.val (.str w), .un] (signsL w) h = .ok (.new (w.cps.toList.map fun c => .bl (decide (c ∈ figs)))) h := by
            unfold compR
            rw [comp_map (fun d => match d with | .str s => .bl (s.cps.toList.all fun c => decide (c ∈ figs)) | d => d) (by rw [em, List.length_nil, Nat.zero_add, List.length_map, sizeLine_eq]; omega) fun d hd => ?_]
            · rw [em, List.nil_append, List.map_map]
              simp
            · rw [em] at hd
              obtain ⟨c, _, rfl⟩ := List.mem_map.mp hd
              refine ev_eq ?_
              show ev (compG _ _ _ _ _ h) _
              have g1 := G_FIGURES
              walk_at "run"
              refine w_in1 ?_
              rw [figs_eq]
              walk_at "run"
              exact ⟨by simp, rfl⟩
          refine ev_of fact ?_
          walk_at "run"
          refine w_all ?_
          walk_at "run"
          refine ev_br (fun h3 => ?_) (fun h3 => ?_)
          · walk_at "run"
            have h3 : w.cps.toList.all (fun c => decide (c ∈ figs)) = false := by simpa using h3
            exact no (.inr h3) rfl
          · have h3 : w.cps.toList.all (fun c => decide (c ∈ figs)) = true := by simpa using h3
            walk_at "run"
            refine w_lenS wd (by rw [sizeLine_eq]; omega) ?_
            walk_at "run"
            rw [List.all_eq_true] at h3
            have two : w.cps.toList.length = 1 ∨ w.cps.toList.length = 2 := by omega
            rcases two with two | two
            · obtain ⟨c, hc⟩ := List.length_eq_one_iff.mp two
              have ew : w = ⟨#[c]⟩ := tl_inj (by show w.cps.toList = [c]; exact hc)
              have hf : c ∈ figs := by simpa using h3 c (by rw [hc]; simp)
              subst ew
              have el : ¬ (((⟨#[c]⟩ : Str).length : Nat) : Int) = 2 := by show ¬ ((1 : Nat) : Int) = 2; omega
              refine w_brn el ?_
              walk_at "run"
              refine w_of (a := .dat (.int (valL [c]))) ?_ ?_
              · show (match PySem.intText? ⟨#[c]⟩ with
                  | some n => if (⟨#[c]⟩ : Str).length ≤ 640 then some (R.dat (.int n)) else none
                  | none => none) = _
                rw [text1 c hf]; rfl
              walk_at "run"
              exact ⟨by show _ = R.dat (numW _); rw [numW_one hf], rfl⟩
            · obtain ⟨c, d, hc⟩ := len_two two
              have ew : w = ⟨#[c, d]⟩ := tl_inj (by show w.cps.toList = [c, d]; exact hc)
              have hf : c ∈ figs := by simpa using h3 c (by rw [hc]; simp)
              have hg : d ∈ figs := by simpa using h3 d (by rw [hc]; simp)
              subst ew
              have el : (((⟨#[c, d]⟩ : Str).length : Nat) : Int) = 2 := rfl
              refine w_brd el ?_
              walk_at "run"
              refine w_ix0 ?_
              walk_at "run"
              refine w_eqS ?_
              rw [eq_zero]
              by_cases q : c = 48
              · rw [decide_eq_true q]
                walk_at "run"
                exact ⟨by show _ = R.dat (numW _); rw [numW_two hf hg, if_pos q], rfl⟩
              · rw [decide_eq_false q]
                walk_at "run"
                refine w_of (a := .dat (.int (valL [c, d]))) ?_ ?_
                · show (match PySem.intText? ⟨#[c, d]⟩ with
                    | some n => if (⟨#[c, d]⟩ : Str).length ≤ 640 then some (R.dat (.int n)) else none
                    | none => none) = _
                  rw [text2 c hf d hg]; rfl
                walk_at "run"
                exact ⟨by show _ = R.dat (numW _); rw [numW_two hf hg, if_neg q], rfl⟩
      · have h1 : ¬ (1 : Int) ≤ w.length := of_decide_eq_false h1
        walk_at "run"
        exact no (.inl (by rw [decide_eq_false (by omega : ¬ 1 ≤ w.length)]; simp)) rfl
    | _ => cases hd
  · have hd : isStr d = false := by simpa using hd
    rw [hd]
    walk_at "run"
    refine ⟨?_, rfl⟩
    cases d <;> first | rfl | cases hd
theorem law_number_ok {d : D} (s : seen h d = true) (hw : ∀ w, d = .str w → Wd 19000 w) : run T G (n + 1) "_law_number" [d] h = .ok (.dat (numD d)) h := by
  refine ev_eq (v_run T__law_number rfl ?_)
  unfold f__law_number b__law_number
  simp only [Fn.env, List.map_cons, List.map_nil, Nat.reduceSub, List.replicate_succ, List.replicate_zero, List.cons_append, List.nil_append]
  walk_at "run"
  refine w_isS s ?_
  by_cases hd : isStr d = true
  · cases d with
    | str w =>
      have wd := hw w rfl
      show ev (notR (.dat (.bl true)) _) _
      walk_at "run"
      refine w_lenS wd (by rw [sizeLine_eq]; omega) ?_
      walk_at "run"
      have no : ∀ {g : Hh}, ((decide (1 ≤ w.length) && decide (w.length ≤ 2)) = false ∨ w.cps.toList.all (fun c => decide (c ∈ figs)) = false) → g = h → R.dat D.non = .dat (numD (.str w)) ∧ g = h := by
        rintro g e rfl
        exact ⟨by show _ = R.dat (numW w); rw [numW_no e], rfl⟩
      refine ev_br (fun h1 => ?_) (fun h1 => ?_)
      · have h1 : (1 : Int) ≤ w.length := of_decide_eq_true h1
        walk_at "run"
        refine ev_br (fun h2 => ?_) (fun h2 => ?_)
        · walk_at "run"
          have h2 : ¬ (w.length : Int) ≤ 2 := by simpa using h2
          exact no (.inl (by rw [decide_eq_false (by omega : ¬ w.length ≤ 2)]; simp)) rfl
        · have h2 : (w.length : Int) ≤ 2 := by simpa using h2
          walk_at "run"
          refine w_of (a := signsL w) rfl ?_
          have em : signsL w = w.cps.toList.map fun c => .str ⟨#[c]⟩ := rfl
          have hlen : w.cps.toList.length = w.length := by simp [Str.length]
          have fact : compR (run T G n) G [2] (.nm 2) (.cmp .notin (.var 2) (.con (.str "0123456789"))) (.var 2) [.val (.str w), .un, .un] (signsL w) h =
              .ok (.new (((w.cps.toList.filter fun c => !decide (c ∈ figs)).map fun c => (⟨#[c]⟩ : Str)).map .str)) h := by
            unfold compR
            rw [comp_filter (fun d => match d with | .str s => !s.cps.toList.all fun c => decide (c ∈ figs) | _ => false) id (by rw [em, List.length_nil, Nat.zero_add, List.length_map, sizeLine_eq]; omega) fun d hd => ?_]
            · rw [em, List.nil_append, List.map_id, List.filter_map, List.map_map]
              congr 2
              refine congrArg (fun p => List.map (fun c => D.str { cps := #[c] }) (List.filter p w.cps.toList)) ?_
              funext c
              simp
            · rw [em] at hd
              obtain ⟨c, _, rfl⟩ := List.mem_map.mp hd
              refine ev_eq ?_
              show ev (compG _ _ _ _ _ h) _
              walk_at "run"
              refine w_notin1 ?_
              rw [figs_eq]
              have ec : ((⟨#[c]⟩ : Str).cps.toList.all fun c => decide (c ∈ figs)) = decide (c ∈ figs) := by simp
              refine ev_br (fun h5 => ?_) (fun h5 => ?_)
              · walk_at "run"
                refine ⟨?_, rfl⟩
                show _ = if (!_) = true then _ else _
                rw [ec, h5]; rfl
              · walk_at "run"
                refine ⟨?_, rfl⟩
                show _ = if (!_) = true then _ else _
                rw [ec, h5]; rfl
          refine ev_of fact ?_
          walk_at "run"
          refine w_neP (x := .new _) (y := .new []) (Pl.le (Pl.lst (k := 1) fun d hd => ?_) (by omega)) (Pl.le (Pl.lst (k := 1) (by simp)) (by omega)) ?_
          · obtain ⟨p, hp, rfl⟩ := List.mem_map.mp hd
            obtain ⟨c, hc, rfl⟩ := List.mem_map.mp hp
            exact .str (wd.one (List.mem_filter.mp hc).1).ok
          have e3 : (!decide ((R.new (((w.cps.toList.filter fun c => !decide (c ∈ figs)).map fun c => (⟨#[c]⟩ : Str)).map .str)).d = (R.new []).d)) = !w.cps.toList.all (fun c => decide (c ∈ figs)) := by
            congr 1
            rw [Bool.eq_iff_iff, decide_eq_true_iff]
            simp only [R.d, D.lst.injEq, List.map_eq_nil_iff, List.filter_eq_nil_iff, List.all_eq_true]
            simp
          rw [e3]
          refine ev_br (fun h3 => ?_) (fun h3 => ?_)
          · walk_at "run"
            have h3 : w.cps.toList.all (fun c => decide (c ∈ figs)) = false := by simpa using h3
            exact no (.inr h3) rfl
          · have h3 : w.cps.toList.all (fun c => decide (c ∈ figs)) = true := by simpa using h3
            walk_at "run"
            refine w_lenS wd (by rw [sizeLine_eq]; omega) ?_
            walk_at "run"
            rw [List.all_eq_true] at h3
            have two : w.cps.toList.length = 1 ∨ w.cps.toList.length = 2 := by omega
            have loop : ∀ {QA : Fl → Hh → Prop}, (∀ (s2 : Slot), QA (.nx [.val (.str w), .val (.int (valL w.cps.toList)), s2]) h) →
                ev (forR (run T G n) G (.nm 2) (.cons (.asg 1 (.bin .add (.bin .mul (.con (.int 10)) (.var 1)) (.mth .index (.con (.str "0123456789")) (.cons (.var 2) .nil)))) .nil) (signsL w) [.val (.str w), .val (.int 0), .un] h) QA := by
              intro QA k
              refine ev_for (fun i e g => g = h ∧ ∃ s2, e = [.val (.str w), .val (.int (valL (w.cps.toList.take i))), s2]) ⟨rfl, _, rfl⟩ ?_ ?_
              · rintro i d e g hd ⟨rfl, s2, rfl⟩
                rw [em, List.getElem?_map] at hd
                cases hc : w.cps.toList[i]? with
                | none => rw [hc] at hd; cases hd
                | some c =>
                  rw [hc] at hd
                  cases hd
                  have hf : c ∈ figs := by simpa using h3 c (List.mem_of_getElem? hc)
                  refine ⟨_, rfl, ?_⟩
                  walk_at "run"
                  refine w_of (idx c hf) ?_
                  walk_at "run"
                  refine ⟨rfl, .val (.str ⟨#[c]⟩), ?_⟩
                  rw [List.take_succ, hc]
                  show _ = [_, Slot.val (.int (valL (w.cps.toList.take i ++ [c]))), _]
                  rw [valL_snoc]
              · rintro e g ⟨rfl, s2, rfl⟩
                rw [em, List.length_map, List.take_length]
                exact k s2
            have fin : ∀ {g : Hh}, R.dat (.int (valL w.cps.toList)) = .dat (numW w) → g = h → R.dat (.int (valL w.cps.toList)) = .dat (numD (.str w)) ∧ g = h := fun e1 e2 => ⟨e1, e2⟩
            rcases two with two | two
            · obtain ⟨c, hc⟩ := List.length_eq_one_iff.mp two
              have ew : w = ⟨#[c]⟩ := tl_inj (by show w.cps.toList = [c]; exact hc)
              have hf : c ∈ figs := by simpa using h3 c (by rw [hc]; simp)
              have el : ¬ ((w.length : Nat) : Int) = 2 := by omega
              refine w_brn el ?_
              walk_at "run"
              refine w_of (a := signsL w) rfl ?_
              refine loop fun s2 => ?_
              walk_at "run"
              exact fin (by rw [ew, numW_one hf]) rfl
            · obtain ⟨c, d, hc⟩ := len_two two
              have ew : w = ⟨#[c, d]⟩ := tl_inj (by show w.cps.toList = [c, d]; exact hc)
              have hf : c ∈ figs := by simpa using h3 c (by rw [hc]; simp)
              have hg : d ∈ figs := by simpa using h3 d (by rw [hc]; simp)
              have el : ((w.length : Nat) : Int) = 2 := by omega
              refine w_brd el ?_
              walk_at "run"
              have ix : ∀ {QA : R → Hh → Prop}, QA (.dat (.str ⟨#[c]⟩)) h → ev (ofR h (ixF h (.dat (.str w)) (.dat (.int 0))) .dat) QA := fun k => by rw [ew]; exact w_ix0 k
              refine ix ?_
              walk_at "run"
              refine w_eqS ?_
              rw [eq_zero]
              by_cases q : c = 48
              · rw [decide_eq_true q]
                walk_at "run"
                exact ⟨by show _ = R.dat (numW _); rw [ew, numW_two hf hg, if_pos q], rfl⟩
              · rw [decide_eq_false q]
                walk_at "run"
                refine w_of (a := signsL w) rfl ?_
                refine loop fun s2 => ?_
                walk_at "run"
                exact fin (by rw [ew, numW_two hf hg, if_neg q]) rfl
      · have h1 : ¬ (1 : Int) ≤ w.length := of_decide_eq_false h1
        walk_at "run"
        exact no (.inl (by rw [decide_eq_false (by omega : ¬ 1 ≤ w.length)]; simp)) rfl
    | _ => cases hd
  · have hd : isStr d = false := by simpa using hd
    rw [hd]
    walk_at "run"
    refine ⟨?_, rfl⟩
    cases d <;> first | rfl | cases hd
theorem parts_len {x : Str} : ((Txt.split x " ").map (·.length)).sum + (Txt.split x " ").length ≤ 2 * x.length + 2 := by
  have e := PySem.StrLaws.join_split x " "
  have key : ∀ A : List (List Nat), (A.map (·.length)).sum + A.length ≤ (joinL [32] A).length + 1 := by
    intro A
    induction A with
    | nil => simp
    | cons a A ih =>
      cases A with
      | nil => simp [joinL]
      | cons b A =>
        simp only [joinL, List.map_cons, List.sum_cons, List.length_cons, List.length_append] at ih ⊢
        omega
  have := key ((Txt.split x " ").map tl)
  rw [← tl_bl, ← tl_join, e, List.length_map, List.map_map] at this
  have e1 : (Txt.split x " ").map ((fun l : List Nat => l.length) ∘ tl) = (Txt.split x " ").map (·.length) := List.map_congr_left fun p _ => by simp [tl, Str.length]
  rw [e1] at this
  have e2 : (tl x).length = x.length := by simp [tl, Str.length]
  omega
theorem rok_words {x : Str} {l : List Str} (w : Wd 19000 x) (e : wordsO x = some l) : Rok (.lst (l.map .str)) := by
  unfold wordsO at e
  split at e
  · cases e
  · cases e
    have := parts_len (x := x)
    have := w.1
    exact Rok.strs (splitWd w) (by omega)
theorem w_isnot {x : D} {Q : R → Hh → Prop} {b : Bool} (e : isN (.dat x) (.dat .non) = some b) (p : Q (.dat (.bl (!b))) h) : ev (ofR h (cmpF h .isnot (.dat x) (.dat .non)) fun b => R.dat (.bl b)) Q := by
  refine w_ofR (a := !b) ?_ p
  show (isN (.dat x) (.dat .non)).map (!·) = _
  rw [e]; rfl
theorem w_isnotB {l : List D} {Q : R → Hh → Prop} (p : Q (.dat (.bl true)) h) : ev (ofR h (cmpF h .isnot (.bor l) (.dat .non)) fun b => R.dat (.bl b)) Q := w_ofR (a := true) rfl p
theorem words_right_ok {d : D} (s : seen h d = true) (hw : ∀ w, d = .str w → Wd 19000 w) : run T G (n + 2) "_law_words_right" [d] h = .ok (.dat (.bl true)) h := by
  refine ev_eq (v_run T__law_words_right rfl ?_)
  unfold f__law_words_right b__law_words_right
  simp only [Fn.env, List.map_cons, List.map_nil, Nat.reduceSub, List.replicate_succ, List.replicate_zero, List.cons_append, List.nil_append]
  walk_at "run"
  have fin : ∀ (due : D) (res : R), run T G (n + 1) "_law_parted" [d] h = .ok (.dat due) h → run T G (n + 1) "words_of" [d] h = .ok res h → Rok due → (res = .dat .non ∧ due = .non ∨ ∃ l, res = .new l ∧ due = .lst l ∧ l.length ≤ 100000) →
      ev (run T G (n + 1) "_law_parted" [d] h) fun x h1 => ev (fzR x fun d_1 => Res.ok (Fl.nx ([Slot.val d, Slot.un, Slot.un, Slot.un].set 1 (Slot.val d_1))) h1)
        (contF (endQ fun x g => x = R.dat (D.bl true) ∧ g = h) fun env' h' => execSs (run T G (n + 1)) G (.cons (.for' (.nm 2) (.rng1 (.con (.int 2))) (.cons (.any 3 (.call "words_of" (.cons (.var 0) .nil))) (.cons (.ifs (.cmp .ne (.blt1 .repr (.var 3)) (.blt .repr (.cons (.var 1) .nil))) (.cons (.ret (.con (.bl false))) .nil) .nil) (.cons (.ifs (.cmp .isnot (.var 3) (.con .non)) (.cons (.app 3 (.con (.str "a"))) .nil) .nil) .nil)))) (.cons (.ret (.con (.bl true))) .nil)) env' h') := by
    intro due res e1 e2 rok hres
    refine ev_of e1 ?_
    walk_at "run"
    refine ev_for (fun i e g => g = h ∧ ∃ s2 s3, e = [.val d, .val due, s2, s3]) ⟨rfl, _, _, rfl⟩ ?_ ?_
    · rintro i x e g hx ⟨rfl, s2, s3, rfl⟩
      refine ⟨_, rfl, ?_⟩
      walk_at "run"
      refine ev_of e2 ?_
      rcases hres with ⟨rfl, rfl⟩ | ⟨l, rfl, rfl, hl⟩
      · walk_at "run"
        refine w_reprBD .non ?_
        walk_at "run"
        refine w_reprD .non ?_
        refine w_neSt ?_
        simp only [decide_true, Bool.not_true]
        walk_at "run"
        refine w_isnot (b := true) rfl ?_
        walk_at "run"
        exact ⟨rfl, _, _, rfl⟩
      · walk_at "run"
        refine w_reprB rok ?_
        walk_at "run"
        refine w_reprD rok ?_
        refine w_neSt ?_
        simp only [decide_true, Bool.not_true]
        walk_at "run"
        refine w_isnotB ?_
        walk_at "run"
        have z : l.length < sizeLine := by rw [sizeLine_eq]; omega
        with_reducible refine v_appR z ?_
        walk_at "run"
        exact ⟨rfl, _, _, rfl⟩
    · rintro e g ⟨rfl, s2, s3, rfl⟩
      walk_at "run"
      exact ⟨rfl, rfl⟩
  by_cases hd : isStr d = true
  · cases d with
    | str w =>
      have wd := hw w rfl
      have e2 := words_of_ok (n := n) (h := h) (wd.le (by omega : 19000 ≤ 20000))
      cases q : wordsO w with
      | none =>
        rw [q] at e2
        refine fin .non (.dat .non) ?_ e2 .non (.inl ⟨rfl, rfl⟩)
        rw [parted_ok wd, q]; rfl
      | some l =>
        rw [q] at e2
        refine fin (.lst (l.map .str)) (.new (l.map .str)) ?_ e2 (rok_words wd q) (.inr ⟨_, rfl, rfl, ?_⟩)
        · rw [parted_ok wd, q]; rfl
        · rw [List.length_map]
          unfold wordsO at q
          split at q
          · cases q
          · cases q
            have := parts_len (x := w)
            have := wd.1
            omega
    | _ => cases hd
  · have hd : isStr d = false := by simpa using hd
    exact fin .non (.dat .non) (parted_no s hd) (words_of_no s hd) .non (.inl ⟨rfl, rfl⟩)
theorem w_addNN {a b : List D} {Q : R → Hh → Prop} (z : a.length + b.length ≤ big) (p : Q (.new (a ++ b)) h) : ev (Res.of h (binF h .add (.new a) (.new b))) Q := by
  refine w_of (a := .new (a ++ b)) ?_ p
  show (if a.length + b.length ≤ sizeLine then _ else _) = _
  rw [if_pos (by rw [sizeLine_eq]; rw [big_eq] at z; omega)]
theorem w_addBN {a b : List D} {Q : R → Hh → Prop} (z : a.length + b.length ≤ big) (p : Q (.new (a ++ b)) h) : ev (Res.of h (binF h .add (.bor a) (.new b))) Q := by
  refine w_of (a := .new (a ++ b)) ?_ p
  show (if a.length + b.length ≤ sizeLine then _ else _) = _
  rw [if_pos (by rw [sizeLine_eq]; rw [big_eq] at z; omega)]
theorem str_small : ∀ k : Nat, k < 150 → wdB 3 (toString ((k : Nat) : Int)) = true := by decide +kernel
theorem w_strI {i : Int} {Q : R → Hh → Prop} (h0 : 0 ≤ i) (h1 : i < 150) (p : ∀ s : Str, Wd 3 s → Q (.dat (.str s)) h) : ev (Res.of h (bltF h .toStr [.int i])) Q := by
  refine w_toStr ?_ (p _ ?_)
  · exact log_small (by omega)
  · have := str_small i.toNat (by omega)
    rw [Int.toNat_of_nonneg h0] at this
    exact Wd.of this
theorem w_pickS {l : List D} {k : Nat} {i : Int} {Q : R → Hh → Prop} (hl : ∀ d ∈ l, ∃ s : Str, d = .str s ∧ Wd k s) (h0 : 0 ≤ i) (h1 : i < l.length) (p : ∀ s : Str, Wd k s → Q (.dat (.str s)) h) : ev (ofR h (ixF h (.dat (.lst l)) (.dat (.int i))) .dat) Q := by
  have hm := List.getElem_mem (l := l) (n := i.toNat) (by omega)
  obtain ⟨s, e, w⟩ := hl _ hm
  refine w_ixF (atI_in h0 (by omega)) ?_
  rw [e]
  exact p s w
theorem two_blanks {QA : R → Hh → Prop} (p : Bool) (k : ∀ s : Str, Wd 1 s → QA (.dat (.str s)) h) : ev (ofR h (ixF h (.new [.str "", .str " "]) (.dat (.int (if p = true then 1 else 0)))) .dat) QA := by
  cases p
  · exact w_ixN (d := .str "") rfl (k _ (Wd.of (by decide +kernel)))
  · exact w_ixN (d := .str " ") rfl (k _ (Wd.of (by decide +kernel)))
theorem row_text_ok {m ci li : Nat} {b : Int} (d : Dr h m ci li b) (hb : b < 2 ^ 57) :
    ev (run T G (n + 4) "_law_row_text" [.ref m] h) fun r h' => ∃ s : Str, r = .dat (.str s) ∧ Wd 1000 s ∧ Dr h' m ci li (b + 40) := by
  refine v_run T__law_row_text rfl ?_
  unfold f__law_row_text b__law_row_text
  simp only [Fn.env, List.map_cons, List.map_nil, Nat.reduceSub, List.replicate_succ, List.replicate_zero, List.cons_append, List.nil_append]
  walk_at "run"
  refine ev_mono (words_ok T__law_mixed T__law_draw T__law_words d (by omega) (by decide) (by decide)) ?_
  rintro r h1 ⟨ws, rfl, w1, w2, d1, _⟩
  have w1 : ws.length = 4 := w1
  walk_at "run"
  refine ev_mono (draw_ok (n := n + 1) T__law_mixed T__law_draw d1 (by omega) (by decide) (by decide)) ?_
  rintro r h2 ⟨x, rfl, x0, x1, d2, _⟩
  walk_at "run"
  refine w_strI x0 (by omega) fun sx wx => ?_
  walk_at "run"
  have good : ∀ d ∈ ws.map D.str ++ [D.str "[", .str "]", .str "|", .str "any", .str "0", .str "7", .str sx, .str ";", .str "=", .str "a\nb"], ∃ s : Str, d = .str s ∧ Wd 40 s := by
    intro d hd
    rcases List.mem_append.mp hd with q | q
    · obtain ⟨s, hs, rfl⟩ := List.mem_map.mp q
      exact ⟨s, rfl, w2 s hs⟩
    · simp only [List.mem_cons, List.not_mem_nil, or_false] at q
      rcases q with e | e | e | e | e | e | e | e | e | e
      · exact ⟨_, e, Wd.of (by decide +kernel)⟩
      · exact ⟨_, e, Wd.of (by decide +kernel)⟩
      · exact ⟨_, e, Wd.of (by decide +kernel)⟩
      · exact ⟨_, e, Wd.of (by decide +kernel)⟩
      · exact ⟨_, e, Wd.of (by decide +kernel)⟩
      · exact ⟨_, e, Wd.of (by decide +kernel)⟩
      · exact ⟨_, e, wx.le (by omega)⟩
      · exact ⟨_, e, Wd.of (by decide +kernel)⟩
      · exact ⟨_, e, Wd.of (by decide +kernel)⟩
      · exact ⟨_, e, Wd.of (by decide +kernel)⟩
  have gl : (ws.map D.str ++ [D.str "[", .str "]", .str "|", .str "any", .str "0", .str "7", .str sx, .str ";", .str "=", .str "a\nb"]).length = 14 := by rw [List.length_append, List.length_map, w1]; rfl
  have z1 : (ws.map D.str).length + [D.str "[", .str "]", .str "|", .str "any", .str "0", .str "7", .str sx, .str ";", .str "=", .str "a\nb"].length ≤ big := le_big (by rw [List.length_map, w1]; simp only [List.length_cons, List.length_nil]; omega)
  with_reducible refine w_addNN z1 ?_
  clear z1
  walk_at "run"
  generalize ((ws.map D.str ++ [.str "[", .str "]", .str "|", .str "any", .str "0", .str "7", .str sx, .str ";", .str "=", .str "a\nb"] : List D)) = some at good gl
  refine ev_mono (draw_ok (n := n + 1) T__law_mixed T__law_draw d2 (by omega) (by decide) (by decide)) ?_
  rintro r h3 ⟨y, rfl, y0, y1, d3, _⟩
  walk_at "run"
  refine ev_comp (fun i acc g => acc.length = i ∧ (∀ d ∈ acc, ∃ s : Str, d = .str s ∧ Wd 40 s) ∧ Dr g m ci li (b + 7 + (i : Nat))) ⟨rfl, by simp, d3.mono (by omega)⟩ (by rw [rngL_length, sizeLine_eq]; simp only [List.length_nil]; omega) ?_ ?_
  · rintro i e acc g hd ⟨a1, a2, a3⟩
    obtain ⟨hi, rfl⟩ := rngL_get hd
    refine ⟨_, rfl, ?_⟩
    walk_at "run"
    refine ev_mono (draw_ok (n := n + 1) T__law_mixed T__law_draw a3 (by omega) (by omega) (by omega)) ?_
    rintro r g2 ⟨u, rfl, u0, u1, d4, _⟩
    walk_at "run"
    refine w_pickS good u0 u1 fun s ws => ?_
    walk_at "run"
    refine ⟨by simp [a1], fun x hx => ?_, d4.mono (by omega)⟩
    rcases List.mem_append.mp hx with q | q
    · exact a2 x q
    · rw [List.mem_singleton.mp q]; exact ⟨s, rfl, ws⟩
  rintro found g ⟨f1, f2, d4⟩
  rw [rngL_length] at f1 d4
  have f3 : found.length ≤ 6 := by omega
  walk_at "run"
  refine w_ofR (a := found) rfl ?_
  have hel := enum_length found 0
  refine ev_for (fun i e g => i ≤ found.length ∧ ∃ (t : Str) (s4 s5 : Slot), e = [.val (.ref m), .val (.lst some), .val (.lst found), .val (.str t), s4, s5] ∧ Wd (50 * i) t ∧ Dr g m ci li (b + 13 + (i : Nat))) ⟨Nat.zero_le _, "", _, _, rfl, Wd.of (by decide +kernel), d4.mono (by omega)⟩ ?_ ?_
  · rintro i e env g hd ⟨hi0, t, s4, s5, rfl, wt, d5⟩
    obtain ⟨e2, g1, rfl⟩ := enum_get hd
    obtain ⟨s, rfl, wS⟩ := f2 e2 (List.mem_of_getElem? g1)
    have hi := (List.getElem?_eq_some_iff.mp g1).1
    refine ⟨_, rfl, ?_⟩
    walk_at "run"
    refine ev_mono (draw_ok (n := n + 1) T__law_mixed T__law_draw d5 (by omega) (by decide) (by decide)) ?_
    rintro r g2 ⟨u, rfl, u0, u1, d6, _⟩
    walk_at "run"
    obtain ⟨p, hp, ep, _⟩ := ifN2 (decide ((0 : Int) < ((0 + i : Nat) : Int)))
    obtain ⟨q, hq, eq, _⟩ := ifN2 (decide (u = 0))
    rw [ep, eq, show ((p : Nat) : Int) + ((q : Nat) : Int) = ((p + q : Nat) : Int) by omega]
    have z1 : p + q ≤ big := le_big (by omega)
    have z2 : (" " : Str).length * (p + q) ≤ big := le_big (by show 1 * (p + q) < _; omega)
    with_reducible refine w_mulS z1 z2 ?_
    have wr : Wd (1 * (p + q)) (repS " " (p + q)) := (Wd.of (k := 1) (by decide +kernel)).rep _
    refine w_addS wt wr (by rw [sizeLine_eq]; omega) fun w3 => ?_
    walk_at "run"
    refine w_addS w3 wS (by rw [sizeLine_eq]; omega) fun w4 => ?_
    walk_at "run"
    exact ⟨by omega, _, _, _, rfl, w4.le (by omega), d6.mono (by omega)⟩
  · rintro e g ⟨hi0, t, s4, s5, rfl, wt, d5⟩
    rw [hel] at wt d5
    walk_at "run"
    refine ev_mono (draw_ok (n := n + 1) T__law_mixed T__law_draw d5 (by omega) (by decide) (by decide)) ?_
    rintro r g2 ⟨u, rfl, u0, u1, d6, _⟩
    walk_at "run"
    refine two_blanks _ fun s1 ws1 => ?_
    walk_at "run"
    refine w_addS ws1 wt (by rw [sizeLine_eq]; omega) fun w3 => ?_
    walk_at "run"
    refine ev_mono (draw_ok (n := n + 1) T__law_mixed T__law_draw d6 (by omega) (by decide) (by decide)) ?_
    rintro r g3 ⟨v, rfl, v0, v1, d7, _⟩
    walk_at "run"
    refine two_blanks _ fun s2 ws2 => ?_
    refine w_addS w3 ws2 (by rw [sizeLine_eq]; omega) fun w4 => ?_
    walk_at "run"
    exact ⟨_, rfl, w4.le (by omega), d7.mono (by omega)⟩
/-- what is asked of -/
def askD (g : Hh) (d : D) : Prop := seen g d = true ∧ ∀ w, d = .str w → Wd 19000 w
theorem numD_rok {d : D} : Rok (numD d) := by
  cases d with
  | str w =>
    show Rok (numW w)
    unfold numW
    by_cases q : numC w = true
    · rw [if_pos q]
      unfold numC at q
      simp only [Bool.and_eq_true, decide_eq_true_eq, List.all_eq_true] at q
      obtain ⟨⟨⟨q1, q2⟩, q3⟩, _⟩ := q
      have hlen : w.cps.toList.length = w.length := by simp [Str.length]
      refine Rok.int ?_
      rcases (by omega : w.cps.toList.length = 1 ∨ w.cps.toList.length = 2) with two | two
      · obtain ⟨c, hc⟩ := List.length_eq_one_iff.mp two
        rw [hc] at q3 ⊢
        exact val_small1 c (q3 c (by simp))
      · obtain ⟨c, d, hc⟩ := len_two two
        rw [hc] at q3 ⊢
        exact val_small2 c (q3 c (by simp)) d (q3 d (by simp))
    · rw [if_neg q]; exact .non
  | _ => exact .non
theorem ask_of {k : Nat} {g : Hh} {s : Str} (w : Wd k s) (hk : k ≤ 19000) : askD g (.str s) := ⟨rfl, fun v e => by cases e; exact w.le hk⟩
end
end K02
end Mi
/-! P02b: law k02, its own body. -/
namespace Mi
open PySem PySem.Spec PyProof.Rows L2
theorem Dr.more {h : Hh} {m ci li : Nat} {b : Int} (d : Dr h m ci li b) (o : List O) : Dr (h ++ o) m ci li b := by
  obtain ⟨⟨cs, ls, a, q1, q2, q3, q4, q5, q6, q7, q8⟩, z1, z2, z3⟩ := d
  have g : ∀ {j : Nat} {x : O}, h[j]? = some x → (h ++ o)[j]? = some x := fun e => by rw [List.getElem?_append_left (List.getElem?_eq_some_iff.mp e).1]; exact e
  exact ⟨⟨cs, ls, a, g q1, g q2, q3, q4, g q5, q6, q7, q8⟩, z1, z2, z3⟩
namespace K02
local macro_rules | `(tactic| walk_at "run") => `(tactic| repeat (first
  | with_reducible refine w_notT ?_ | with_reducible refine w_notF ?_
  | with_reducible refine w_con ?_ | ((with_reducible refine' w_var ?e ?_); case e => rfl)
  | with_reducible refine w_bin ?_ | with_reducible refine w_fzD ?_ | with_reducible refine w_bind ?_ | with_reducible refine w_ok ?_
  | with_reducible refine w_addI ?_ | with_reducible refine w_subI ?_
  | with_reducible refine w_cons ?_ | with_reducible refine w_nil ?_ | with_reducible refine w_call ?_
  | with_reducible refine v_cons ?_ | ((with_reducible refine v_contN ?_); try simp only [setV, List.set_cons_succ, List.set_cons_zero]) | with_reducible refine v_contR ?_ | with_reducible refine v_asg ?_ | with_reducible refine v_ret ?_ | with_reducible refine v_retD ?_ | with_reducible refine v_endR ?_
  | with_reducible refine v_nil ?_ | with_reducible refine v_ifs ?_ | with_reducible refine w_brt ?_ | with_reducible refine w_brf ?_
  | with_reducible refine w_and ?_ | with_reducible refine w_or ?_ | with_reducible refine w_not ?_ | with_reducible refine w_notR ?_ | with_reducible refine w_ite ?_
  | with_reducible refine w_cmp ?_ | with_reducible refine w_chain ?_ | with_reducible refine w_ltI ?_ | with_reducible refine w_leI ?_ | with_reducible refine w_gtI ?_ | with_reducible refine w_geI ?_ | with_reducible refine w_eqI ?_
  | with_reducible refine w_isi ?_ | with_reducible refine w_blt ?_ | with_reducible refine w_ix ?_ | with_reducible refine w_dget ?_
  | ((with_reducible refine' w_modI ?e ?_); case e => (first | decide | omega))
  | ((with_reducible refine' w_fdivI ?e ?_); case e => (first | decide | omega))
  | ((with_reducible refine' w_mulI ?e ?_); case e => (first | exact near_r (by decide) | exact near_l (by decide) | exact near_ro (by omega) (by omega) | exact near_lo (by omega) (by omega)))
  | ((with_reducible refine' w_powI ?e ?_); case e => decide)
  | with_reducible refine w_neg ?_ | with_reducible refine w_negI ?_
  | with_reducible refine w_tup ?_ | with_reducible refine w_lst ?_ | ((with_reducible refine' w_lenR ?e ?_); case e => (first | decide | (simp only [List.length_cons, List.length_nil, Nat.zero_add, Nat.reduceAdd]; decide)))
  | with_reducible refine w_fzN ?_ | ((with_reducible refine' w_glo ?e ?_); case e => (first | assumption | rfl))
  | with_reducible refine w_sl ?_ | with_reducible refine w_ono ?_ | with_reducible refine w_opart ?_ | with_reducible refine w_intR ?_ | with_reducible refine w_strR ?_ | with_reducible refine w_tupR ?_ | with_reducible refine w_newR ?_ | ((with_reducible refine' w_optR ?e ?_); case e => rfl)
  | with_reducible refine w_mth ?_ | with_reducible refine w_comp ?_ | with_reducible refine w_seq ?_ | with_reducible refine w_rng1 ?_ | with_reducible refine w_rng2 ?_ | with_reducible refine w_rng3 ?_ | with_reducible refine w_enum ?_ | ((with_reducible refine' w_rng1R ?e ?_); case e => exact rng_ok1 (by omega) (by omega)) | ((with_reducible refine' w_rngR ?e ?_); case e => exact rng_ok2 (by omega) (by omega) (by omega) (by omega)) | ((with_reducible refine' w_rngD ?e ?_); case e => exact rng_ok2 (by omega) (by omega) (by omega) (by omega))
  | with_reducible refine w_promo ?_ | with_reducible refine w_proN ?_ | with_reducible refine w_proD ?_ | with_reducible refine w_dct ?_ | ((with_reducible refine' w_dctR ?e ?_); case e => decide)
  | with_reducible refine v_own ?_ | with_reducible refine v_any ?_ | with_reducible refine v_anyN ?_ | with_reducible refine v_anyD ?_ | with_reducible refine w_blt1 ?_ | with_reducible refine v_asgs ?_ | with_reducible refine v_setL ?_ | with_reducible refine v_setD ?_ | with_reducible refine v_setOwn ?_ | ((with_reducible refine' v_ownR ?e ?_); case e => rfl)
  | ((with_reducible refine' v_app ?e ?_); case e => rfl) | ((with_reducible refine' v_ext ?e ?_); case e => rfl) | with_reducible refine v_expr ?_ | with_reducible refine v_for ?_ | with_reducible refine v_whl ?_
  | ((with_reducible refine' v_retV ?e ?_); case e => rfl) | with_reducible refine v_retn ?_ | with_reducible refine v_pass ?_ | with_reducible refine v_brk ?_ | with_reducible refine v_cnt ?_ | ((with_reducible refine' v_frz ?e ?_); case e => rfl)
  | with_reducible refine v_contB ?_ | with_reducible refine v_contC ?_ | with_reducible refine v_retN ?_ | with_reducible refine v_endN ?_ | with_reducible refine w_compG ?_
  | ((with_reducible refine' w_varO ?e ?_); case e => rfl)
  | ((with_reducible refine' w_dgetK ?e ?q ?_); (case e => first | assumption | rfl); (case q => rfl); (try dsimp only))
  | with_reducible refine w_lenT ?_ | with_reducible refine w_lenLs ?_ | with_reducible refine w_slT ?_ | with_reducible refine w_slL ?_ | with_reducible refine w_tupN ?_ | with_reducible refine w_seqT ?_ | with_reducible refine w_seqL ?_ | with_reducible refine w_seqN ?_ | with_reducible refine w_intB ?_ | with_reducible refine w_intI ?_ | with_reducible refine w_neI ?_
  | with_reducible refine w_isi_int_non ?_ | with_reducible refine w_isi_int_bl ?_ | with_reducible refine w_isi_int_int ?_ | with_reducible refine w_isi_int_str ?_ | with_reducible refine w_isi_int_tup ?_ | with_reducible refine w_isi_int_lst ?_ | with_reducible refine w_isi_bool_non ?_ | with_reducible refine w_isi_bool_bl ?_ | with_reducible refine w_isi_bool_int ?_ | with_reducible refine w_isi_bool_str ?_ | with_reducible refine w_isi_bool_tup ?_ | with_reducible refine w_isi_bool_lst ?_ | with_reducible refine w_isi_str_non ?_ | with_reducible refine w_isi_str_bl ?_ | with_reducible refine w_isi_str_int ?_ | with_reducible refine w_isi_str_str ?_ | with_reducible refine w_isi_str_tup ?_ | with_reducible refine w_isi_str_lst ?_ | with_reducible refine w_isi_tuple_non ?_ | with_reducible refine w_isi_tuple_bl ?_ | with_reducible refine w_isi_tuple_int ?_ | with_reducible refine w_isi_tuple_str ?_ | with_reducible refine w_isi_tuple_tup ?_ | with_reducible refine w_isi_tuple_lst ?_ | with_reducible refine w_isi_list_non ?_ | with_reducible refine w_isi_list_bl ?_ | with_reducible refine w_isi_list_int ?_ | with_reducible refine w_isi_list_str ?_ | with_reducible refine w_isi_list_tup ?_ | with_reducible refine w_isi_list_lst ?_
  | ((with_reducible refine' w_ixT ?e ?_); case e => rfl)
  | ((with_reducible refine' w_brd ?e ?_); case e => omega)
  | ((with_reducible refine' w_brn ?e ?_); case e => omega)
  | ((with_reducible refine' w_brnd ?e ?_); case e => omega)
  | ((with_reducible refine' w_brnn ?e ?_); case e => omega)
  | ((with_reducible refine' w_brp ?e ?_); case e => assumption)
  | ((with_reducible refine' w_brq ?e ?_); case e => assumption)))
local macro_rules | `(tactic| walk_at "one") => `(tactic| (first
  | with_reducible refine w_notT ?_ | with_reducible refine w_notF ?_
  | with_reducible refine w_con ?_ | ((with_reducible refine' w_var ?e ?_); case e => rfl)
  | with_reducible refine w_bin ?_ | with_reducible refine w_fzD ?_ | with_reducible refine w_bind ?_ | with_reducible refine w_ok ?_
  | with_reducible refine w_addI ?_ | with_reducible refine w_subI ?_
  | with_reducible refine w_cons ?_ | with_reducible refine w_nil ?_ | with_reducible refine w_call ?_
  | with_reducible refine v_cons ?_ | ((with_reducible refine v_contN ?_); try simp only [setV, List.set_cons_succ, List.set_cons_zero]) | with_reducible refine v_contR ?_ | with_reducible refine v_asg ?_ | with_reducible refine v_ret ?_ | with_reducible refine v_retD ?_ | with_reducible refine v_endR ?_
  | with_reducible refine v_nil ?_ | with_reducible refine v_ifs ?_ | with_reducible refine w_brt ?_ | with_reducible refine w_brf ?_
  | with_reducible refine w_and ?_ | with_reducible refine w_or ?_ | with_reducible refine w_not ?_ | with_reducible refine w_notR ?_ | with_reducible refine w_ite ?_
  | with_reducible refine w_cmp ?_ | with_reducible refine w_chain ?_ | with_reducible refine w_ltI ?_ | with_reducible refine w_leI ?_ | with_reducible refine w_gtI ?_ | with_reducible refine w_geI ?_ | with_reducible refine w_eqI ?_
  | with_reducible refine w_isi ?_ | with_reducible refine w_blt ?_ | with_reducible refine w_ix ?_ | with_reducible refine w_dget ?_
  | ((with_reducible refine' w_modI ?e ?_); case e => (first | decide | omega))
  | ((with_reducible refine' w_fdivI ?e ?_); case e => (first | decide | omega))
  | ((with_reducible refine' w_mulI ?e ?_); case e => (first | exact near_r (by decide) | exact near_l (by decide) | exact near_ro (by omega) (by omega) | exact near_lo (by omega) (by omega)))
  | ((with_reducible refine' w_powI ?e ?_); case e => decide)
  | with_reducible refine w_neg ?_ | with_reducible refine w_negI ?_
  | with_reducible refine w_tup ?_ | with_reducible refine w_lst ?_ | ((with_reducible refine' w_lenR ?e ?_); case e => (first | decide | (simp only [List.length_cons, List.length_nil, Nat.zero_add, Nat.reduceAdd]; decide)))
  | with_reducible refine w_fzN ?_ | ((with_reducible refine' w_glo ?e ?_); case e => (first | assumption | rfl))
  | with_reducible refine w_sl ?_ | with_reducible refine w_ono ?_ | with_reducible refine w_opart ?_ | with_reducible refine w_intR ?_ | with_reducible refine w_strR ?_ | with_reducible refine w_tupR ?_ | with_reducible refine w_newR ?_ | ((with_reducible refine' w_optR ?e ?_); case e => rfl)
  | with_reducible refine w_mth ?_ | with_reducible refine w_comp ?_ | with_reducible refine w_seq ?_ | with_reducible refine w_rng1 ?_ | with_reducible refine w_rng2 ?_ | with_reducible refine w_rng3 ?_ | with_reducible refine w_enum ?_ | ((with_reducible refine' w_rng1R ?e ?_); case e => exact rng_ok1 (by omega) (by omega)) | ((with_reducible refine' w_rngR ?e ?_); case e => exact rng_ok2 (by omega) (by omega) (by omega) (by omega)) | ((with_reducible refine' w_rngD ?e ?_); case e => exact rng_ok2 (by omega) (by omega) (by omega) (by omega))
  | with_reducible refine w_promo ?_ | with_reducible refine w_proN ?_ | with_reducible refine w_proD ?_ | with_reducible refine w_dct ?_ | ((with_reducible refine' w_dctR ?e ?_); case e => decide)
  | with_reducible refine v_own ?_ | with_reducible refine v_any ?_ | with_reducible refine v_anyN ?_ | with_reducible refine v_anyD ?_ | with_reducible refine w_blt1 ?_ | with_reducible refine v_asgs ?_ | with_reducible refine v_setL ?_ | with_reducible refine v_setD ?_ | with_reducible refine v_setOwn ?_ | ((with_reducible refine' v_ownR ?e ?_); case e => rfl)
  | ((with_reducible refine' v_app ?e ?_); case e => rfl) | ((with_reducible refine' v_ext ?e ?_); case e => rfl) | with_reducible refine v_expr ?_ | with_reducible refine v_for ?_ | with_reducible refine v_whl ?_
  | ((with_reducible refine' v_retV ?e ?_); case e => rfl) | with_reducible refine v_retn ?_ | with_reducible refine v_pass ?_ | with_reducible refine v_brk ?_ | with_reducible refine v_cnt ?_ | ((with_reducible refine' v_frz ?e ?_); case e => rfl)
  | with_reducible refine v_contB ?_ | with_reducible refine v_contC ?_ | with_reducible refine v_retN ?_ | with_reducible refine v_endN ?_ | with_reducible refine w_compG ?_
  | ((with_reducible refine' w_varO ?e ?_); case e => rfl)
  | ((with_reducible refine' w_dgetK ?e ?q ?_); (case e => first | assumption | rfl); (case q => rfl); (try dsimp only))
  | with_reducible refine w_lenT ?_ | with_reducible refine w_lenLs ?_ | with_reducible refine w_slT ?_ | with_reducible refine w_slL ?_ | with_reducible refine w_tupN ?_ | with_reducible refine w_seqT ?_ | with_reducible refine w_seqL ?_ | with_reducible refine w_seqN ?_ | with_reducible refine w_intB ?_ | with_reducible refine w_intI ?_ | with_reducible refine w_neI ?_
  | with_reducible refine w_isi_int_non ?_ | with_reducible refine w_isi_int_bl ?_ | with_reducible refine w_isi_int_int ?_ | with_reducible refine w_isi_int_str ?_ | with_reducible refine w_isi_int_tup ?_ | with_reducible refine w_isi_int_lst ?_ | with_reducible refine w_isi_bool_non ?_ | with_reducible refine w_isi_bool_bl ?_ | with_reducible refine w_isi_bool_int ?_ | with_reducible refine w_isi_bool_str ?_ | with_reducible refine w_isi_bool_tup ?_ | with_reducible refine w_isi_bool_lst ?_ | with_reducible refine w_isi_str_non ?_ | with_reducible refine w_isi_str_bl ?_ | with_reducible refine w_isi_str_int ?_ | with_reducible refine w_isi_str_str ?_ | with_reducible refine w_isi_str_tup ?_ | with_reducible refine w_isi_str_lst ?_ | with_reducible refine w_isi_tuple_non ?_ | with_reducible refine w_isi_tuple_bl ?_ | with_reducible refine w_isi_tuple_int ?_ | with_reducible refine w_isi_tuple_str ?_ | with_reducible refine w_isi_tuple_tup ?_ | with_reducible refine w_isi_tuple_lst ?_ | with_reducible refine w_isi_list_non ?_ | with_reducible refine w_isi_list_bl ?_ | with_reducible refine w_isi_list_int ?_ | with_reducible refine w_isi_list_str ?_ | with_reducible refine w_isi_list_tup ?_ | with_reducible refine w_isi_list_lst ?_
  | ((with_reducible refine' w_ixT ?e ?_); case e => rfl)
  | ((with_reducible refine' w_brd ?e ?_); case e => omega)
  | ((with_reducible refine' w_brn ?e ?_); case e => omega)
  | ((with_reducible refine' w_brnd ?e ?_); case e => omega)
  | ((with_reducible refine' w_brnn ?e ?_); case e => omega)
  | ((with_reducible refine' w_brp ?e ?_); case e => assumption)
  | ((with_reducible refine' w_brq ?e ?_); case e => assumption)))

section
variable {n : Nat} {h : Hh}
theorem law_body {C : Calls'} {sc : D} (hbegun : ev (C "_law_begun" [sc] []) fun r h' => r = .dat (.ref 2) ∧ h'.length = 4 ∧ Dr h' 2 0 3 0)
    (hdraw : ∀ {h : Hh} {b many : Int}, Dr h 2 0 3 b → b < 2 ^ 59 → 0 < many → many < 2 ^ 30 → ev (C "_law_draw" [.ref 2, .int many] h) fun r h' => ∃ x : Int, r = .dat (.int x) ∧ 0 ≤ x ∧ x < many ∧ Dr h' 2 0 3 (b + 1) ∧ Kp 2 3 h h')
    (hnum : ∀ {h : Hh} {d : D}, askD h d → C "number_of" [d] h = .ok (.dat (numD d)) h)
    (hlnum : ∀ {h : Hh} {d : D}, askD h d → C "_law_number" [d] h = .ok (.dat (numD d)) h)
    (hwr : ∀ {h : Hh} {d : D}, askD h d → C "_law_words_right" [d] h = .ok (.dat (.bl true)) h)
    (hrt : ∀ {h : Hh} {b : Int}, Dr h 2 0 3 b → b < 2 ^ 57 → ev (C "_law_row_text" [.ref 2] h) fun r h' => ∃ s : Str, r = .dat (.str s) ∧ Wd 1000 s ∧ Dr h' 2 0 3 (b + 40)) :
    ev (execSs C G b_law [.val sc, .un, .un, .un, .un, .un, .un, .un] []) (endQ fun r _ => r = .dat (.bl true)) := by
  unfold b_law
  walk_at "run"
  refine ev_mono hbegun ?_
  rintro r h1 ⟨rfl, hl, d0⟩
  clear hl
  walk_at "run"
  have m5 : ∀ {a : Str} {k : Nat} {g : Hh} {QA : R → Hh → Prop}, Wd 2 a → k ≤ 5000 → (∀ s : Str, Wd 10000 s → QA (.dat (.str s)) g) → ev (Res.of g (binF g .mul (.dat (.str a)) (.dat (.int ((k : Nat) : Int))))) QA := by
    intro a k g QA wa hk f
    have z1 : k ≤ big := le_big (by omega)
    have z0 : a.length * k ≤ 2 * 5000 := Nat.mul_le_mul wa.1 hk
    have z2 : a.length * k ≤ big := le_big (by omega)
    with_reducible refine w_mulS z1 z2 ?_
    exact f _ ((wa.rep k).le (by omega))
  refine m5 (a := "9") (k := 5000) (Wd.of (by decide +kernel)) (by omega) fun s1 ws1 => ?_
  walk_at "run"
  refine m5 (a := "0") (k := 4400) (Wd.of (by decide +kernel)) (by omega) fun s2 ws2 => ?_
  walk_at "run"
  refine m5 (a := "1") (k := 5000) (Wd.of (by decide +kernel)) (by omega) fun s3 ws3 => ?_
  walk_at "run"
  refine w_addS (a := 1) (Wd.of (by decide +kernel)) ws3 (by rw [sizeLine_eq]; omega) fun ws4 => ?_
  generalize (("-" : Str) ++ s3) = s4 at ws4
  walk_at "run"
  have okA : ∀ d ∈ [D.str "0", .str "00", .str "-0", .str "-1", .str "", .str "99", .str "100", .str "09", .str "9", .str "+1", .str " 1", .str "1 ", .str "1_0", .str "1.", .str "0x1", .str "1e1", .str "\n", .str "9\n"], ∃ s : Str, d = .str s ∧ Wd 10001 s := by
    intro d hd
    simp only [List.mem_cons, List.not_mem_nil, or_false] at hd
    rcases hd with e | e | e | e | e | e | e | e | e | e | e | e | e | e | e | e | e | e <;> exact ⟨_, e, (Wd.of (k := 5) (by decide +kernel)).le (by omega)⟩
  have ls : [D.str "0", .str "00", .str "-0", .str "-1", .str "", .str "99", .str "100", .str "09", .str "9", .str "+1", .str " 1", .str "1 ", .str "1_0", .str "1.", .str "0x1", .str "1e1", .str "\n", .str "9\n"].length = 18 := rfl
  generalize [D.str "0", .str "00", .str "-0", .str "-1", .str "", .str "99", .str "100", .str "09", .str "9", .str "+1", .str " 1", .str "1 ", .str "1_0", .str "1.", .str "0x1", .str "1e1", .str "\n", .str "9\n"] = L0 at okA ls
  have z1 : L0.length + [D.str s1, .str s2, .str s4].length ≤ big := le_big (by rw [ls]; simp only [List.length_cons, List.length_nil]; omega)
  with_reducible refine w_addBN z1 ?_
  have okB : ∀ d ∈ L0 ++ [D.str s1, .str s2, .str s4], ∃ s : Str, d = .str s ∧ Wd 10001 s := by
    intro d hd
    rcases List.mem_append.mp hd with q | q
    · exact okA d q
    · simp only [List.mem_cons, List.not_mem_nil, or_false] at q
      rcases q with e | e | e
      · exact ⟨_, e, ws1.le (by omega)⟩
      · exact ⟨_, e, ws2.le (by omega)⟩
      · exact ⟨_, e, ws4.le (by omega)⟩
  have ls1 : (L0 ++ [D.str s1, .str s2, .str s4]).length = 21 := by rw [List.length_append, ls]; rfl
  generalize L0 ++ [D.str s1, .str s2, .str s4] = L1 at okB ls1
  clear z1 okA ls
  walk_at "run"
  refine ev_comp (fun i acc g => g = h1 ∧ acc.length = i ∧ ∀ d ∈ acc, ∃ s : Str, d = .str s ∧ Wd 3 s) ⟨rfl, rfl, by simp⟩ (by rw [rngL_length, sizeLine_eq]; decide) ?_ ?_
  · rintro i d acc g hd ⟨rfl, a1, a2⟩
    obtain ⟨hi, rfl⟩ := rngL_get hd
    have hi : i < 10 := hi
    refine ⟨_, rfl, ?_⟩
    walk_at "run"
    refine w_strI (by omega) (by omega) fun s ws => ?_
    walk_at "run"
    refine ⟨rfl, by simp [a1], fun x hx => ?_⟩
    rcases List.mem_append.mp hx with q | q
    · exact a2 x q
    · rw [List.mem_singleton.mp q]; exact ⟨s, rfl, ws⟩
  rintro acc g ⟨rfl, a1, a2⟩
  rw [rngL_length] at a1
  have a1 : acc.length = 10 := a1
  have z1 : L1.length + acc.length ≤ big := le_big (by omega)
  with_reducible refine w_addNN z1 ?_
  have okC : ∀ d ∈ L1 ++ acc, ∃ s : Str, d = .str s ∧ Wd 10001 s := by
    intro d hd
    rcases List.mem_append.mp hd with q | q
    · exact okB d q
    · obtain ⟨s, e, w⟩ := a2 d q
      exact ⟨s, e, w.le (by omega)⟩
  have ls2 : (L1 ++ acc).length = 31 := by rw [List.length_append, ls1, a1]
  generalize L1 ++ acc = L2 at okC ls2
  clear z1 okB ls1 a1 a2
  walk_at "run"
  refine ev_mono (hdraw d0 (by decide) (by decide) (by decide)) ?_
  rintro r h2 ⟨x, rfl, x0, x1, d1, _⟩
  walk_at "run"
  refine w_strI x0 (by omega) fun s5 ws5 => ?_
  walk_at "run"
  have z1 : L2.length + [D.str s5].length ≤ big := le_big (by rw [ls2]; simp only [List.length_cons, List.length_nil]; omega)
  with_reducible refine w_addNN z1 ?_
  have okD : ∀ d ∈ L2 ++ [D.str s5], ∃ s : Str, d = .str s ∧ Wd 10001 s := by
    intro d hd
    rcases List.mem_append.mp hd with q | q
    · exact okC d q
    · exact ⟨s5, List.mem_singleton.mp q, ws5.le (by omega)⟩
  have ls3 : (L2 ++ [D.str s5]).length = 32 := by rw [List.length_append, ls2]; rfl
  generalize L2 ++ [D.str s5] = L3 at okD ls3
  clear z1 okC ls2
  walk_at "run"
  refine ev_for (fun i e g => i ≤ 8 ∧ ∃ (L : List D) (t3 t4 t5 : Slot), e = [.val sc, .val (.ref 2), .own L, t3, t4, t5, .un, .un] ∧ L.length = 32 + i ∧ (∀ d ∈ L, ∃ s : Str, d = .str s ∧ Wd 10001 s) ∧ Dr g 2 0 3 (10 + 3 * (i : Nat))) ⟨by omega, L3, _, _, _, rfl, ls3, okD, d1.mono (by decide)⟩ ?_ ?_
  · rintro i d e g hd ⟨hi0, L, t3, t4, t5, rfl, b1, b2, d2⟩
    obtain ⟨hi, rfl⟩ := rngL_get hd
    have hi : i < 8 := hi
    refine ⟨_, rfl, ?_⟩
    walk_at "run"
    refine ev_mono (hdraw d2 (by omega) (by decide) (by decide)) ?_
    rintro r g2 ⟨x, rfl, x0, x1, d3, _⟩
    walk_at "run"
    refine w_strI x0 (by omega) fun s6 ws6 => ?_
    walk_at "run"
    refine ev_mono (hdraw d3 (by omega) (by decide) (by decide)) ?_
    rintro r g3 ⟨y, rfl, y0, y1, d4, _⟩
    walk_at "run"
    refine w_slS ws6 (by rw [sizeLine_eq]; omega) fun wa => ?_
    walk_at "run"
    refine ev_mono (hdraw d4 (by omega) (by decide) (by decide)) ?_
    rintro r g4 ⟨z, rfl, z0, z1, d5, _⟩
    walk_at "run"
    have wl : ("abz-+_. \n0" : Str).length = 10 := by decide +kernel
    have ww : Wd 20 ("abz-+_. \n0" : Str) := Wd.of (by decide +kernel)
    refine w_ixS ww (by rw [sizeLine_eq]; omega) z0 (by rw [wl]; omega) fun c _ wc => ?_
    walk_at "run"
    refine w_addS wa wc (by rw [sizeLine_eq]; omega) fun wb => ?_
    walk_at "run"
    refine w_slS ws6 (by rw [sizeLine_eq]; omega) fun wd => ?_
    refine w_addS wb wd (by rw [sizeLine_eq]; omega) fun we => ?_
    walk_at "run"
    have zz : L.length < sizeLine := by rw [sizeLine_eq]; omega
    with_reducible refine v_appR zz ?_
    walk_at "run"
    refine ⟨by omega, _, _, _, _, rfl, by rw [List.length_append, b1]; rfl, fun x hx => ?_, d5.mono (by omega)⟩
    rcases List.mem_append.mp hx with q | q
    · exact b2 x q
    · exact ⟨_, List.mem_singleton.mp q, we.le (by omega)⟩
  rintro e g ⟨hi0, L, t3, t4, t5, rfl, b1, b2, d2⟩
  have b1 : L.length = 40 := b1
  have d2 : Dr g 2 0 3 34 := d2
  walk_at "run"
  have d3 := d2.more [O.dct ([].zip [])]
  have hg : (g ++ [O.dct ([].zip [])])[g.length]? = some (O.dct ([].zip [])) := by simp
  have z1 : L.length + [D.non, .int 5, .bl true, .lst [.str "0"], .tup [.str "0"], .ref g.length, .int 0].length ≤ big := le_big (by rw [b1]; simp only [List.length_cons, List.length_nil]; omega)
  with_reducible refine w_addBN z1 ?_
  clear z1
  have good : ∀ d ∈ L ++ [D.non, .int 5, .bl true, .lst [.str "0"], .tup [.str "0"], .ref g.length, .int 0], askD (g ++ [O.dct ([].zip [])]) d := by
    intro d hd
    rcases List.mem_append.mp hd with q | q
    · obtain ⟨s, rfl, w⟩ := b2 d q
      exact ask_of w (by omega)
    · simp only [List.mem_cons, List.not_mem_nil, or_false] at q
      rcases q with e | e | e | e | e | e | e <;> rw [e] <;> refine ⟨?_, fun v e => by cases e⟩ <;> first | rfl | (simp only [seen, hg]; rfl)
  generalize L ++ [D.non, .int 5, .bl true, .lst [.str "0"], .tup [.str "0"], .ref g.length, .int 0] = things at good
  generalize g ++ [O.dct ([].zip [])] = hh at d3 good
  walk_at "run"
  refine ev_for (fun i e g => g = hh ∧ ∃ (t6 : Slot), e = [.val sc, .val (.ref 2), .own L, t3, t4, t5, t6, .un]) ⟨rfl, _, rfl⟩ ?_ ?_
  · rintro i d e g hd ⟨rfl, t6, rfl⟩
    have ad := good d (List.mem_of_getElem? hd)
    refine ⟨_, rfl, ?_⟩
    walk_at "run"
    refine ev_of (hnum ad) ?_
    walk_at "run"
    refine w_reprD numD_rok ?_
    walk_at "run"
    refine ev_of (hlnum ad) ?_
    walk_at "run"
    refine w_reprD numD_rok ?_
    refine w_neSt ?_
    simp only [decide_true, Bool.not_true]
    walk_at "run"
    refine ev_of (hwr ad) ?_
    walk_at "run"
    exact ⟨rfl, _, rfl⟩
  rintro e g ⟨rfl, t6, rfl⟩
  walk_at "run"
  refine ev_comp (fun i acc g => i ≤ 24 ∧ acc = (List.range i).map (fun _ => D.bl true) ∧ Dr g 2 0 3 (40 + 40 * (i : Nat))) ⟨by omega, rfl, d3.mono (by decide)⟩ (by rw [rngL_length, sizeLine_eq]; decide) ?_ ?_
  · rintro i d acc g2 hd ⟨i0, rfl, d4⟩
    obtain ⟨hi, rfl⟩ := rngL_get hd
    have hi : i < 24 := hi
    refine ⟨_, rfl, ?_⟩
    walk_at "run"
    refine ev_mono (hrt d4 (by omega)) ?_
    rintro r g3 ⟨s, rfl, ws, d5⟩
    walk_at "run"
    refine ev_of (hwr (ask_of ws (by omega))) ?_
    walk_at "run"
    exact ⟨by omega, by rw [List.range_succ, List.map_append]; rfl, d5.mono (by omega)⟩
  rintro acc g2 ⟨i0, rfl, d4⟩
  walk_at "run"
  refine w_all (f := fun _ : Nat => true) ?_
  rw [show (List.range (rngL 0 (24 : Int).toNat).length).all (fun _ => true) = true by simp]
  walk_at "run"
  refine m5 (a := "a ") (k := 3000) (Wd.of (by decide +kernel)) (by omega) fun s7 ws7 => ?_
  walk_at "run"
  refine w_addS ws7 (b := 1) (Wd.of (by decide +kernel)) (by rw [sizeLine_eq]; omega) fun ws8 => ?_
  walk_at "run"
  refine ev_of (hwr (ask_of ws8 (by omega))) ?_
  walk_at "run"
  rfl
theorem law_ok {ns : List Int} (hn : ns.length ≤ 63) : ev (run T G 10 "law" [scriptD ns] []) fun r _ => r = .dat (.bl true) := by
  refine v_run T_law rfl ?_
  exact law_body (C := run T G 9) (begun_ok (n := 7) T__law_folded T__law_begun hn) (fun d h1 h2 h3 => draw_ok (n := 7) T__law_mixed T__law_draw d h1 h2 h3)
    (fun a => number_of_ok (n := 8) a.1 a.2) (fun a => law_number_ok (n := 8) a.1 a.2) (fun a => words_right_ok (n := 7) a.1 a.2) (fun d h1 => row_text_ok (n := 5) d h1)
def level : Nat := 10
theorem run_law : ∀ ns : List Int, ns.length ≤ 63 → ∃ h', run T G level "law" [scriptD ns] [] = .ok (.dat (.bl true)) h' := fun ns hn => by
  obtain ⟨a, h', e, rfl⟩ := ev_iff.mp (law_ok hn)
  exact ⟨h', e⟩
end
end K02
end Mi
open PySem PySem.W PyProof.Rows
set_option maxHeartbeats 0 in
theorem PySem.Challenge.cw_waysfold_k02_words_of_rows_holds : PySem.Challenge.rw_waysfold_k02_words_of_rows.Holds := by
  w_on; o_law; k_head; (case hw => w_witness2)
  k_fill
  refine Mi.walkG (l := PySem.Challenge.rw_waysfold_k02_words_of_rows) (n := 63) (k := Mi.K02.level) (T := Mi.K02.T) (G := Mi.K02.G) (bs := Mi.K02.bs) rfl (by decide) rfl ⟨rfl, by decide, by decide⟩ (fun w h Y => PySem.W.kIn_of Y) ?F (e := Mi.K02.f_law) Mi.K02.T_law Mi.K02.run_law
  case F =>
    intro w mg h KX G
    refine' Mi.K02.all_mk KX G ?a0 ?l0 ?c0 ?k0 ?a1 ?l1 ?c1 ?k1 ?a2 ?l2 ?c2 ?k2 ?a3 ?l3 ?c3 ?k3 ?a4 ?l4 ?c4 ?k4 ?a5 ?l5 ?c5 ?k5 ?a6 ?l6 ?c6 ?k6 ?a7 ?l7 ?c7 ?k7 ?a8 ?l8 ?c8 ?k8 ?a9 ?l9 ?c9 ?k9 ?a10 ?l10 ?c10 ?k10 ?a11 ?l11 ?c11 ?k11 ?g0a ?g0k ?z0 ?z1 ?z2 ?z3 ?z4 ?z5 ?z6 ?z7
    (case a0 => k_is); (case l0 => k_is); (case c0 => k_is); (case k0 => k_is); (case a1 => k_is); (case l1 => k_is); (case c1 => k_is); (case k1 => k_is); (case a2 => k_is); (case l2 => k_is); (case c2 => k_is); (case k2 => k_is); (case a3 => k_is); (case l3 => k_is); (case c3 => k_is); (case k3 => k_is); (case a4 => k_is); (case l4 => k_is); (case c4 => k_is); (case k4 => k_is); (case a5 => k_is); (case l5 => k_is); (case c5 => k_is); (case k5 => k_is); (case a6 => k_is); (case l6 => k_is); (case c6 => k_is); (case k6 => k_is); (case a7 => k_is); (case l7 => k_is); (case c7 => k_is); (case k7 => k_is); (case a8 => k_is); (case l8 => k_is); (case c8 => k_is); (case k8 => k_is); (case a9 => k_is); (case l9 => k_is); (case c9 => k_is); (case k9 => k_is); (case a10 => k_is); (case l10 => k_is); (case c10 => k_is); (case k10 => k_is); (case a11 => k_is); (case l11 => k_is); (case c11 => k_is); (case k11 => k_is); (case g0a => k_is); (case g0k => rfl); (case z0 => k_is); (case z1 => k_is); (case z2 => k_is); (case z3 => k_is); (case z4 => k_is); (case z5 => k_is); (case z6 => k_is); (case z7 => k_is)
