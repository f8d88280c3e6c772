import PyProof.Rows.All
import Wide.All
import OpenK.AllK
import Wide.FinOn
import HandS.ForMost
import HandS.TupMul
import HandS.Exc
import HandS.ExcIs
import HandS.ExcField
import HandS.Lambda
import KE.KExcIs
import HandS.IsInst
import HandS.TupAny
import HandS.Zip
import HandS.Conv
import HandS.Style
import HandS.Replace
import HandS.RaiseMore
import PyProof.ReprLen
import PyProof.Rows.ReprOcc
import HandS.Text
import PySem.Challenge.RW_waysfold_k04_lean_rows
set_option Elab.async false
set_option linter.all false
set_option autoImplicit false
set_option maxRecDepth 100000
set_option maxHeartbeats 0
/-! Mi0: rules that the layer lacks. -/
namespace Mi
open PySem PySem.Spec PyProof.Rows L2
def repS0 (a : Str) (n : Nat) : Str := ⟨(List.replicate n a.cps).foldl (· ++ ·) #[]⟩
theorem repS0_eq (a : Str) (n : Nat) : repS0 a n = ⟨(List.replicate n a.cps.toList).flatten.toArray⟩ := by
  have f0 : ∀ (m : Nat) (acc : Array Nat), List.foldl (fun x1 x2 => x1 ++ x2) acc (List.replicate m a.cps) = acc ++ (List.replicate m a.cps.toList).flatten.toArray := by
    intro m
    induction m with
    | zero => intro acc; simp
    | succ m ih =>
      intro acc
      rw [List.replicate_succ, List.foldl_cons, ih, List.replicate_succ, List.flatten_cons]
      apply Array.ext'
      simp
  unfold repS0
  rw [f0 n #[]]
  simp
theorem repS0_len (a : Str) (n : Nat) : (repS0 a n).length = a.length * n := by
  rw [repS0_eq]
  show (List.replicate n a.cps.toList).flatten.toArray.size = _
  rw [List.size_toArray]
  induction n with
  | zero => simp
  | succ n ih =>
    rw [List.replicate_succ, List.flatten_cons, List.length_append, ih, Nat.mul_succ]
    simp [Str.length]
    omega
@[irreducible] def repS (a : Str) (n : Nat) : Str := repS0 a n
theorem repS_def (a : Str) (n : Nat) : repS a n = repS0 a n := by unfold repS; rfl
theorem repS_eq (a : Str) (n : Nat) : repS a n = ⟨(List.replicate n a.cps.toList).flatten.toArray⟩ := by rw [repS_def, repS0_eq]
theorem repS_len (a : Str) (n : Nat) : (repS a n).length = a.length * n := by rw [repS_def, repS0_len]
def rMulS : R2 := fun x y H Q => ∃ a k, x = .str a ∧ y = .int k ∧ -(2 ^ 63) ≤ k ∧ k < 2 ^ 63 ∧ a.length * k.toNat ≤ sizeLine ∧ Q (.str (repS a k.toNat)) H
theorem op_mulS {X : Cx} : OpR X (binaryOp .Mult) rMulS := by
  intro pins s σ H x y v u Q I rx ry h
  obtain ⟨a, k, rfl, rfl, h1, h2, hz, q⟩ := h
  rw [repS_def] at q
  obtain ⟨t, rfl⟩ := rx
  obtain ⟨t', rfl⟩ := ry
  refine P.mul_str (by rw [decide_eq_false (by omega), decide_eq_false (by omega)]; rfl) (fun n1 n2 => ?_) (fun n1 n2 => ?_) ?_
  · have e1 : k ≠ 1 ∧ a.length ≠ 0 := by
      simp only [Bool.or_eq_false_iff, beq_eq_false_iff_ne, ne_eq] at n2; exact n2
    intro h
    have hz2 : (a.length : Int) * k ≤ (sizeLine : Nat) := by
      have : ((a.length * k.toNat : Nat) : Int) = (a.length : Int) * k := by rw [Int.natCast_mul, Int.toNat_of_nonneg (by omega)]
      omega
    have hs : ((sizeLine : Nat) : Int) ≤ 2 ^ 63 - 1 := by decide
    have := (Int.ediv_lt_iff_lt_mul (a := 2 ^ 63 - 1) (b := (a.length : Int)) (c := k) (by omega)).mp (by omega)
    omega
  · unfold Builtin.Str.tooLong
    exact decide_eq_false (by omega)
  · by_cases h1 : k < 1
    · rw [if_pos h1]
      have e : k.toNat = 0 := by omega
      rw [e] at q
      exact ⟨by decide, .str Str.empty, H, I.tok _, ⟨_, rfl⟩, q⟩
    · rw [if_neg h1]
      by_cases h3 : (k == 1 || a.length == 0) = true
      · rw [if_pos h3]
        have e : repS0 a k.toNat = a := by
          simp only [Bool.or_eq_true, beq_iff_eq] at h3
          rcases h3 with rfl | h3
          · unfold repS0; simp
          · have ec : a.cps.toList = [] := List.eq_nil_of_length_eq_zero (by rw [Array.length_toList]; exact h3)
            rw [repS0_eq, ec]
            have : ∀ m : Nat, (List.replicate m ([] : List Nat)).flatten = [] := by
              intro m
              induction m with
              | zero => rfl
              | succ m ih => rw [List.replicate_succ, List.flatten_cons, ih]; rfl
            rw [this]
            cases a with | mk c => cases c with | mk l => simp at ec; subst ec; rfl
        rw [e] at q
        exact ⟨.str a, H, I, ⟨_, rfl⟩, q⟩
      · rw [if_neg h3]
        exact ⟨by show (repS0 a k.toNat).length ≤ _; rw [repS0_len]; exact hz, .str _, H, I.tok _, ⟨_, rfl⟩, q⟩
theorem mulT_same (l : Addr) (its : Array Value) (n : Nat) (dd : Option Addr) (sl : Array (Option Value)) (x : Int) (u : Tok)
    (c0 : (decide (x < -(2 ^ 63)) || decide (x ≥ 2 ^ 63)) = false) (c1 : (its.isEmpty || x == 1) = true) :
    Meets (Builtin.«tuple.__mul__» ⟨[.ref l, .int x u], []⟩) (fun _ R s =>
      s.heap.get? l = some { cls := .type "tuple", dict := dd, data := .seq its n, slots := sl } ∧ R (.ok (.ret (Value.ref l))) s) :=
  .of_wp fun prog w A R s h => by
    obtain ⟨hp, g, d, tk, os⟩ := s
    obtain ⟨hl, h⟩ := h
    have f1 := AutoSeq1.idx_int
    wp_walk using wpAny_loadPart' hl
    refine wpAny_ite_false (decide_eq_false (by rw [c0]; exact Bool.false_ne_true)) ?_
    wp_walk using wpAny_loadPart' hl
    exact ⟨_, rfl, h⟩
theorem mulT_none (l : Addr) (its : Array Value) (n : Nat) (dd : Option Addr) (sl : Array (Option Value)) (x : Int) (u : Tok)
    (c0 : (decide (x < -(2 ^ 63)) || decide (x ≥ 2 ^ 63)) = false) (c1 : (its.isEmpty || x == 1) = false) (c2 : (decide (x ≤ 0) || its.isEmpty) = true) :
    Meets (Builtin.«tuple.__mul__» ⟨[.ref l, .int x u], []⟩) (fun _ R s =>
      s.heap.get? l = some { cls := .type "tuple", dict := dd, data := .seq its n, slots := sl } ∧
      R (.ok (.ret (Value.ref s.heap.objs.size))) { s with heap := s.heap.push { cls := Value.type "tuple", data := Data.seq #[] }, toks := s.toks }) :=
  .of_wp fun prog w A R s h => by
    obtain ⟨hp, g, d, tk, os⟩ := s
    obtain ⟨hl, h⟩ := h
    have f1 := AutoSeq1.idx_int
    wp_walk using wpAny_loadPart' hl
    repeat (first
      | (refine wpAny_ite_false (decide_eq_false (by rw [c0]; exact Bool.false_ne_true)) ?_; wp_walk using wpAny_loadPart' hl)
      | (refine wpAny_ite_false (decide_eq_false (by rw [c1]; exact Bool.false_ne_true)) ?_; wp_walk using wpAny_loadPart' hl))
    exact ⟨_, rfl, h⟩
/-- tuple * int -/
def rRepA (K : PySem.W.Frag) : R2 := fun x y H Q => ∃ l k xs, x = .ref l ∧ y = .int k ∧ SqT K H l xs ∧ -(2 ^ 63) ≤ k ∧ k < 2 ^ 63 ∧ xs.length * k.toNat ≤ 1000000 ∧
  ((xs = [] ∨ k = 1) → Q (.ref l) H) ∧ (¬ (xs = [] ∨ k = 1) → ∀ p, H p = none → Q (.ref p) (upd H p (.tup (List.replicate k.toNat xs).flatten)))
theorem op_repA {X : Cx} : OpR X (binaryOp .Mult) (rRepA X.K) := by
  intro pins s σ H x y v u Q I rx ry h
  obtain ⟨l, k, xs, rfl, rfl, hT, h1, h2, hz, q1, q2⟩ := h
  cases rx
  obtain ⟨t, rfl⟩ := ry
  obtain ⟨its, r, ⟨⟨cls, dd, data, sl⟩, ho, hc, n, hd⟩, hs⟩ := I.tuple hT
  simp only at hc hd
  subst hc hd
  have hle : its.length = xs.length := r.length.symm
  have c0 : (decide (k < -(2 ^ 63)) || decide (k ≥ 2 ^ 63)) = false := by rw [decide_eq_false (by omega), decide_eq_false (by omega)]; rfl
  by_cases e1 : xs = [] ∨ k = 1
  · have c1 : (its.toArray.isEmpty || k == 1) = true := by
      rcases e1 with e1 | e1
      · subst e1
        have : its = [] := List.eq_nil_of_length_eq_zero (by simpa using hle)
        subst this; rfl
      · subst e1; simp
    refine wpAny_binaryOp_repeat_ref (T := "tuple") (U := "int") (by decide) ⟨_, ho, rfl⟩ (fun s' => typeIs_int s' k t) noFill_tuple_mul F.fills_int_mul F.slot_int_rmul repeat_tuple F.slot_int_index.lookup
      (call_meets F.slot_int_rmul (typeIs_int s k t) F.entry_int_rmul (F.args_int_rmul_2 _ _) (int_rmul_tuple k t l its.toArray n dd sl)
        ⟨ho, rfl, ⟨_, ho, rfl⟩, call_meets F.slot_tuple_mul ⟨_, ho, rfl⟩ F.entry_tuple_mul (F.args_tuple_mul_2 _ _) (mulT_same l its.toArray n dd sl k t c0 c1) ⟨ho, ?_⟩⟩)
    exact ⟨.ref l, H, I, rfl, q1 e1⟩
  · have hne : xs ≠ [] := fun z => e1 (.inl z)
    have hk : k ≠ 1 := fun z => e1 (.inr z)
    have hn : its ≠ [] := fun e => hne (by rw [e] at hle; exact List.eq_nil_of_length_eq_zero hle.symm)
    have hi : its.toArray.isEmpty = false := by
      cases its with
      | nil => exact absurd rfl hn
      | cons a b => rfl
    have c1 : (its.toArray.isEmpty || k == 1) = false := by rw [hi, Bool.false_or]; exact beq_eq_false_iff_ne.mpr hk
    have hrep : (List.replicate k.toNat xs).flatten.length = xs.length * k.toNat := by rw [PyProof.Rows.lm_len_rep_flat, Nat.mul_comm]
    by_cases hk0 : k ≤ 0
    · have c2 : (decide (k ≤ 0) || its.toArray.isEmpty) = true := by rw [decide_eq_true hk0]; rfl
      refine wpAny_binaryOp_repeat_ref (T := "tuple") (U := "int") (by decide) ⟨_, ho, rfl⟩ (fun s' => typeIs_int s' k t) noFill_tuple_mul F.fills_int_mul F.slot_int_rmul repeat_tuple F.slot_int_index.lookup
        (call_meets F.slot_int_rmul (typeIs_int s k t) F.entry_int_rmul (F.args_int_rmul_2 _ _) (int_rmul_tuple k t l its.toArray n dd sl)
          ⟨ho, rfl, ⟨_, ho, rfl⟩, call_meets F.slot_tuple_mul ⟨_, ho, rfl⟩ F.entry_tuple_mul (F.args_tuple_mul_2 _ _) (mulT_none l its.toArray n dd sl k t c0 c1 c2) ⟨ho, ?_⟩⟩)
      have e0 : k.toNat = 0 := by omega
      have q3 := q2 e1 _ (I.hok.fresh (Nat.le_refl _))
      rw [e0] at q3
      refine ⟨.ref s.heap.objs.size, _, I.laid (t' := s.toks) (o := .tup []) (fun b ob q => Heap.get?_push_of_some _ q) (Nat.le_refl _) ?_, rfl, q3⟩
      exact ⟨by decide, _, .nil, IsTup.new _ _⟩
    · have hm : ((its.toArray.size : Nat) : Int) * k ≤ 1000000 := by
        have : ((its.toArray.size * k.toNat : Nat) : Int) = (its.toArray.size : Nat) * k := by rw [Int.natCast_mul, Int.toNat_of_nonneg (by omega)]
        rw [← this, List.size_toArray, hle]
        omega
      have c2 : (decide (k ≤ 0) || its.toArray.isEmpty) = false := by rw [hi, Bool.or_false]; exact decide_eq_false hk0
      have c4 : Builtin.Tuple.tupleTooMany (((its.toArray.size : Nat) : Int) * k) = false := by
        unfold Builtin.Tuple.tupleTooMany
        rw [sizeLine_eq]
        exact decide_eq_false (by omega)
      have flen : (List.replicate k.toNat its).flatten.length ≤ sizeLine := by
        rw [PyProof.Rows.lm_len_rep_flat, hle, sizeLine_eq, Nat.mul_comm]; omega
      refine wpAny_binaryOp_repeat_ref (T := "tuple") (U := "int") (by decide) ⟨_, ho, rfl⟩ (fun s' => typeIs_int s' k t) noFill_tuple_mul F.fills_int_mul F.slot_int_rmul repeat_tuple F.slot_int_index.lookup
        (call_meets F.slot_int_rmul (typeIs_int s k t) F.entry_int_rmul (F.args_int_rmul_2 _ _) (int_rmul_tuple k t l its.toArray n dd sl)
          ⟨ho, rfl, ⟨_, ho, rfl⟩, call_meets F.slot_tuple_mul ⟨_, ho, rfl⟩ F.entry_tuple_mul (F.args_tuple_mul_2 _ _) (tuple_mulW l its.toArray n dd sl k t c0 c1 c2 (by omega) c4 (by rw [size_rep, List.size_toArray]; exact flen)) ⟨ho, ?_⟩⟩)
      rw [size_rep]
      refine ⟨.ref s.heap.objs.size, _, I.laid (t' := s.toks) (o := .tup (List.replicate k.toNat xs).flatten) (fun b ob q => Heap.get?_push_of_some _ q) (Nat.le_refl _) ?_, rfl, q2 e1 _ (I.hok.fresh (Nat.le_refl _))⟩
      exact ⟨by rw [hrep, sizeLine_eq]; omega, _, r.rep k.toNat, IsTup.new _ _⟩
end Mi
/-! Mi1: a small language over plain data, and its evaluator. -/
namespace Mi
open PySem PySem.Spec PyProof.Rows L2

/-- data; sp: a kept exception of the class c with its fields (b), or the def c -/
inductive D where
  | non | bl (b : Bool) | int (i : Int) | str (s : Str)
  | tup (l : List D)
  | lst (l : List D)
  | arg (l : List D)
  | ref (n : Nat)
  | sp (b : Bool) (c : Str) (l : List D)
  deriving Inhabited
/-- what an expression gives: data, a list just made, a list that a name owns -/
inductive R where
  | dat (d : D) | new (l : List D) | bor (l : List D)
/-- what stands in the small heap -/
inductive O where
  | lst (l : List D)
  | dct (l : List (Key × D))
abbrev Hh := List O
structure Exc where
  cls : Str
  fs : List D
inductive Res (α : Type) where
  | ok (a : α) (h : Hh)
  | ex (x : Exc) (h : Hh)
  | bad
def Res.bind {α β : Type} : Res α → (α → Hh → Res β) → Res β
  | .ok a h, f => f a h
  | .ex x h, _ => .ex x h
  | .bad, _ => .bad
/-- a pure answer -/
def Res.of {α : Type} (h : Hh) : Option α → Res α
  | some a => .ok a h
  | none => .bad
inductive Slot where
  | un | val (d : D) | own (l : List D)
abbrev Env' := List Slot

def R.fz : R → Option D
  | .dat d => some d
  | .new l => some (.lst l)
  | .bor _ => none
def lv (h : Hh) : R → Option (List D)
  | .dat (.lst l) => some l
  | .new l => some l
  | .bor l => some l
  | .dat (.ref n) => match h[n]? with
    | some (.lst l) => some l
    | _ => none
  | _ => none
/-- any list, any tuple -/
def sv (h : Hh) : R → Option (List D)
  | .dat (.tup l) => some l
  | .dat (.arg l) => some l
  | r => lv h r

inductive Bop where
  | add | sub | mul | fdiv | mod | pow
inductive Cop where
  | eq | ne | lt | le | gt | ge | isin | notin | is | isnot
inductive Ty where
  | int | bool | str | tuple | list
inductive Blt where
  | len | all | any | repr | toInt | toStr | toTuple | toList | setLen | min2 | max2 | sum | maxL | minL | sorted
inductive Mth where
  | split | join | index

mutual
def D.py : D → Option PyData
  | .non => some .none
  | .bl b => some (.bool b)
  | .int i => some (.int i)
  | .str s => some (.str s)
  | .tup l => (pyAll l).map .tuple
  | .lst l => (pyAll l).map .list
  | .arg l => (pyAll l).map .list
  | .ref _ => none
  | .sp _ _ _ => none
def pyAll : List D → Option (List PyData)
  | [] => some []
  | d :: l => match d.py, pyAll l with
    | some x, some xs => some (x :: xs)
    | _, _ => none
end
def R.py : R → Option PyData
  | .dat d => d.py
  | .new l => (pyAll l).map .list
  | .bor l => (pyAll l).map .list
def R.pyH (h : Hh) : R → Option PyData
  | .dat (.ref n) => match h[n]? with
    | some (.lst l) => (pyAll l).map .list
    | _ => none
  | r => r.py

def addF (h : Hh) : R → R → Option R
  | .dat (.int i), .dat (.int j) => some (.dat (.int (i + j)))
  | .dat (.str a), .dat (.str b) => if a.length + b.length ≤ sizeLine then some (.dat (.str (a ++ b))) else none
  | .dat (.tup a), .dat (.tup b) => if a.length + b.length ≤ sizeLine then some (.dat (.tup (a ++ b))) else none
  | x, y => match lv h x, lv h y with
    | some a, some b => if a.length + b.length ≤ sizeLine then some (.new (a ++ b)) else none
    | _, _ => none
def near (i : Int) : Bool := decide (-(2 ^ 64) < i) && decide (i < 2 ^ 64)
def twoI (f : Int → Int → Option D) : R → R → Option R
  | .dat (.int i), .dat (.int j) => (f i j).map .dat
  | _, _ => none
def mulI (i j : Int) : Option D := if near i || near j then some (.int (i * j)) else none
def fdivI (i j : Int) : Option D := if j ≠ 0 ∧ j.natAbs < 1073741824 then some (.int (i.fdiv j)) else none
def modI (i j : Int) : Option D := if j ≠ 0 then some (.int (i.fmod j)) else none
def mulF (h : Hh) : R → R → Option R
  | .dat (.int i), .dat (.int j) => (mulI i j).map .dat
  | .dat (.str a), .dat (.int k) => if -(2 ^ 63) ≤ k ∧ k < 2 ^ 63 ∧ a.length * k.toNat ≤ sizeLine then some (.dat (.str (repS a k.toNat))) else none
  | .dat (.tup a), .dat (.int k) => if -(2 ^ 63) ≤ k ∧ k < 2 ^ 63 ∧ a.length * k.toNat ≤ 1000000 then some (.dat (.tup (List.replicate k.toNat a).flatten)) else none
  | x, .dat (.int k) => match lv h x with
    | some l => if -(2 ^ 63) ≤ k ∧ k < 2 ^ 63 ∧ l.length * k.toNat ≤ sizeLine then some (.new (List.replicate k.toNat l).flatten) else none
    | none => none
  | _, _ => none
def powI (i j : Int) : Option D := if 0 ≤ j ∧ j ≤ 1000000 ∧ i.natAbs < 2 ^ 64 then some (.int (i ^ j.toNat)) else none
def binF (h : Hh) : Bop → R → R → Option R
  | .add => addF h
  | .sub => twoI fun i j => some (.int (i - j))
  | .mul => mulF h
  | .fdiv => twoI fdivI
  | .mod => twoI modI
  | .pow => twoI powI
def eqF (h : Hh) (x y : R) : Option Bool :=
  match x, y with
  | .dat (.str a), .dat (.str b) => some (decide (a = b))
  | x, y => match x.pyH h, y.pyH h with
  | some a, some b => if SeqAt.shaped a && SeqAt.shaped b then some (PyData.eqv a b) else none
  | _, _ => none
def strsOf : List D → Option (List Str)
  | [] => some []
  | .str s :: l => (strsOf l).map (s :: ·)
  | _ => none
def boolsOf : List D → Option (List Bool)
  | [] => some []
  | .bl s :: l => (boolsOf l).map (s :: ·)
  | _ => none
def intsOf : List D → Option (List Int)
  | [] => some []
  | .int s :: l => (intsOf l).map (s :: ·)
  | _ => none
def D.flat : D → Option V
  | .non => some .non
  | .bl b => some (.bl b)
  | .int i => some (.int i)
  | .str x => some (.str x)
  | _ => none
def flats : List D → Option (List V)
  | [] => some []
  | d :: l => match d.flat, flats l with
    | some v, some vs => some (v :: vs)
    | _, _ => none
/-- x in y -/
def inF (h : Hh) : R → R → Option Bool
  | .dat (.str a), .dat (.str b) => match a.cps.toList with
    | [c] => some (decide (c ∈ b.cps.toList))
    | _ => none
  | .dat d, y => match d.flat, (sv h y).bind flats with
    | some v, some vs => some (inV v vs)
    | _, _ => none
  | _, _ => none
def ordF (f : Int → Int → Bool) : R → R → Option Bool
  | .dat (.int i), .dat (.int j) => some (f i j)
  | _, _ => none
def isN : R → R → Option Bool
  | .dat .non, .dat .non => some true
  | _, .dat .non => some false
  | _, _ => none
def cmpF (h : Hh) : Cop → R → R → Option Bool
  | .eq, x, y => eqF h x y
  | .ne, x, y => (eqF h x y).map (!·)
  | .lt, x, y => ordF (fun i j => decide (i < j)) x y
  | .le, x, y => ordF (fun i j => decide (i ≤ j)) x y
  | .gt, x, y => ordF (fun i j => decide (j < i)) x y
  | .ge, x, y => ordF (fun i j => decide (j ≤ i)) x y
  | .isin, x, y => inF h x y
  | .notin, x, y => (inF h x y).map (!·)
  | .is, x, y => isN x y
  | .isnot, x, y => (isN x y).map (!·)
def isiF (h : Hh) (t : Ty) : D → Option Bool
  | .non => some false
  | .bl _ => some (match t with | .int => true | .bool => true | _ => false)
  | .int _ => some (match t with | .int => true | _ => false)
  | .str _ => some (match t with | .str => true | _ => false)
  | .tup _ => some (match t with | .tuple => true | _ => false)
  | .lst _ => some (match t with | .list => true | _ => false)
  | .arg _ => none
  | .sp _ _ _ => none
  | .ref n => match h[n]? with
    | some (.lst _) => some (match t with | .list => true | _ => false)
    | some (.dct _) => some false
    | none => none
def lenF (h : Hh) : List D → Option R
  | [.str s] => if s.length ≤ sizeLine then some (.dat (.int s.length)) else none
  | [d] => (sv h (.dat d)).map fun l => .dat (.int l.length)
  | _ => none
def allF : List D → Option R
  | [.lst l] => (boolsOf l).map fun bs => .dat (.bl (bs.all id))
  | _ => none
def anyF : List D → Option R
  | [.lst l] => (boolsOf l).map fun bs => .dat (.bl (bs.any id))
  | _ => none
def reprF (h : Hh) : List D → Option R
  | [d] => match (R.dat d).pyH h with
    | some p => if p.showable && !p.hasDict && decide (p.shown.length ≤ sizeLine) && decide (p.depth ≤ 64) then some (.dat (.str p.shown)) else none
    | none => none
  | _ => none
def toIntF : List D → Option R
  | [.int i] => some (.dat (.int i))
  | [.bl b] => some (.dat (.int (if b then 1 else 0)))
  | [.str s] => match PySem.intText? s with
    | some n => if s.length ≤ 640 then some (.dat (.int n)) else none
    | none => none
  | _ => none
def toStrF : List D → Option R
  | [.int i] => if i.natAbs.log2 < 1920 then some (.dat (.str (toString i))) else none
  | _ => none
def toTupF (h : Hh) : List D → Option R
  | [.tup l] => some (.dat (.tup l))
  | [d] => (lv h (.dat d)).map fun l => .dat (.tup l)
  | _ => none
def toLstF (h : Hh) : List D → Option R
  | [d] => (sv h (.dat d)).map fun l => .new l
  | _ => none
def max2F : List D → Option R
  | [.int i, .int j] => some (.dat (.int (if j > i then j else i)))
  | _ => none
def min2F : List D → Option R
  | [.int i, .int j] => some (.dat (.int (if j < i then j else i)))
  | _ => none
def maxI : List Int → Option Int
  | [] => none
  | n :: ns => some (ns.foldl (fun a b => if a < b then b else a) n)
def minI : List Int → Option Int
  | [] => none
  | n :: ns => some (ns.foldl (fun a b => if b < a then b else a) n)
def intsL (h : Hh) (d : D) : Option (List Int) := (lv h (.dat d)).bind intsOf
def sumF (h : Hh) : List D → Option R
  | [d] => (intsL h d).map fun ns => .dat (.int ns.sum)
  | _ => none
def maxF (h : Hh) : List D → Option R
  | [d] => ((intsL h d).bind maxI).map fun m => .dat (.int m)
  | _ => none
def minF (h : Hh) : List D → Option R
  | [d] => ((intsL h d).bind minI).map fun m => .dat (.int m)
  | _ => none
def bltF (h : Hh) : Blt → List D → Option R
  | .len => lenF h
  | .all => allF
  | .any => anyF
  | .repr => reprF h
  | .toInt => toIntF
  | .toStr => toStrF
  | .toTuple => toTupF h
  | .toList => toLstF h
  | .max2 => max2F
  | .min2 => min2F
  | .sum => sumF h
  | .maxL => maxF h
  | .minL => minF h
  | _ => fun _ => none
/-- a built-in of one thing, which may be a list that a name owns -/
def lenB (h : Hh) : R → Option R
  | .dat (.str s) => if s.length ≤ sizeLine then some (.dat (.int s.length)) else none
  | x => (sv h x).map fun l => .dat (.int l.length)
def reprB (h : Hh) (x : R) : Option R := match x.pyH h with
  | some p => if p.showable && !p.hasDict && decide (p.shown.length ≤ sizeLine) && decide (p.depth ≤ 64) then some (.dat (.str p.shown)) else none
  | none => none
def bltR (h : Hh) : Blt → R → Option R
  | .len => lenB h
  | .repr => reprB h
  | _ => fun _ => none
def splitF (a : Str) : List D → Option R
  | [.str b] => if (b.length == 0) = false ∧ a.length + 2 ≤ sizeLine then some (.new ((Txt.split a b).map .str)) else none
  | _ => none
def joinF (a : Str) : List D → Option R
  | [.lst l] => match strsOf l with
    | some ys => if (ys.map (·.length)).sum + ys.length * a.length ≤ 16777216 then some (.dat (.str (Txt.join a ys))) else none
    | none => none
  | _ => none
def indexF (a : Str) : List D → Option R
  | [.str b] => match Builtin.Str.occurrences a b 0 a.length 1 with
    | i :: _ => some (.dat (.int (i : Nat)))
    | [] => none
  | _ => none
def mthF : Mth → Str → List D → Option R
  | .index => indexF
  | .split => splitF
  | .join => joinF
def keyOf : D → Option Key
  | .int i => some (.inl i)
  | .str s => some (.inr s)
  | _ => none
def dLook (l : List (Key × D)) (k : Key) : Option D := (l.find? fun kv => decide (kv.1 = k)).map (·.2)
def dPut (l : List (Key × D)) (k : Key) (d : D) : List (Key × D) :=
  if (l.any fun kv => decide (kv.1 = k)) = true then l.map (fun kv => if kv.1 = k then (kv.1, d) else kv) else l ++ [(k, d)]
def dctOf (h : Hh) : R → Option (List (Key × D))
  | .dat (.ref n) => match h[n]? with
    | some (.dct l) => some l
    | _ => none
  | _ => none
def dgetF (h : Hh) (x y : R) : Option D := match dctOf h x, y with
  | some l, .dat k => (keyOf k).bind fun j => dLook l j
  | _, _ => none
def ixF (h : Hh) : R → R → Option D
  | .dat (.str z), .dat (.int i) => if z.length ≤ sizeLine then (atI z.cps.toList i).map fun c => .str ⟨#[c]⟩ else none
  | x, .dat (.int i) => (sv h x).bind fun l => atI l i
  | _, _ => none
/-- the part of a list between two places -/
def cutD (l : List D) (lo hi : Option Int) : List D := (l.drop (HT.sIx l.length 0 lo)).take (HT.sIx l.length l.length hi - HT.sIx l.length 0 lo)
def slF (h : Hh) (lo hi : Option Int) : R → Option R
  | .dat (.str z) => if z.length ≤ sizeLine then some (.dat (.str (cutS z lo hi))) else none
  | .dat (.tup l) => some (.dat (.tup (cutD l lo hi)))
  | x => (lv h x).map fun l => .new (cutD l lo hi)

def negF : R → Option R
  | .dat (.int i) => some (.dat (.int (-i)))
  | _ => none
mutual
inductive E where
  | var (i : Nat) | con (d : D) | glo (x : Str)
  | bin (op : Bop) (a b : E) | neg (a : E)
  | cmp (op : Cop) (a b : E) | chain (p q : Cop) (a b c : E)
  | and2 (a b : E) | or2 (a b : E) | not1 (a : E) | ite (c a b : E)
  | call (f : Str) (es : Es) | blt (f : Blt) (es : Es) | blt1 (f : Blt) (a : E) | isi (a : E) (t : Ty) | mth (m : Mth) (o : E) (es : Es)
  | ix (a b : E) | dget (a b : E) | sl (a : E) (lo hi : Oe)
  | tup (es : Es) | lst (es : Es) | dct (ks : List Key) (es : Es)
  | comp (own : List Nat) (t : Tg) (it : Iter) (c e : E)
  | promo (e : E)
  | lrng1 (a : E) | lrng2 (a b : E)
  | fnv (x : Str) | callv (i : Nat) (es : Es) | isx (a : E) (c : Str) | attr (a : E) (f : Str) | told (f : Str) (e : E)
inductive Oe where
  | no | part (e : E)
inductive Es where
  | nil | cons (e : E) (es : Es)
inductive Tg where
  | nm (i : Nat) | tp (is : List Nat)
inductive Iter where
  | seq (e : E) | rng1 (a : E) | rng2 (a b : E) | rng3 (a b c : E) | enum (e : E) | zip (a b : E) | items (e : E)
end

def Es.len : Es → Nat
  | .nil => 0
  | .cons _ es => es.len + 1
/-- names stored: i-th slot -/
def setV (env : Env') (i : Nat) (d : D) : Env' := env.set i (.val d)
def setVs : Env' → List Nat → List D → Option Env'
  | env, [], [] => some env
  | env, i :: is, d :: ds => setVs (setV env i d) is ds
  | _, _, _ => none
def Tg.bind : Tg → Env' → D → Option Env'
  | .nm i, env, d => some (setV env i d)
  | .tp is, env, .tup ds => setVs env is ds
  | .tp _, _, _ => none
def wipeE (env : Env') : List Nat → Env'
  | [] => env
  | v :: vs => (wipeE env vs).set v .un
def rngOk (i : Int) : Bool := decide (-(2 ^ 62) ≤ i) && decide (i < 2 ^ 62)
def rngL (lo : Int) (n : Nat) : List D := (List.range n).map fun k => .int (lo + (k : Nat))
def rng3L (lo c : Int) (n : Nat) : List D := (List.range n).map fun k => .int (lo + (k : Nat) * c)
def rng3R : R → R → R → Hh → Res (List D)
  | .dat (.int i), .dat (.int j), .dat (.int c), h => if c ≠ 0 ∧ c.natAbs < 1073741824 ∧ Builtin.Range.small i j c = true ∧ 0 ≤ Builtin.Range.rangeSize i j c then .ok (rng3L i c (Builtin.Range.rangeSize i j c).toNat) h else .bad
  | _, _, _, _ => .bad
def enumL : Nat → List D → List D
  | _, [] => []
  | k, d :: l => .tup [.int (k : Nat), d] :: enumL (k + 1) l
def zipL : List D → List D → List D
  | x :: xs, y :: ys => .tup [x, y] :: zipL xs ys
  | _, _ => []
def signsL (s : Str) : List D := s.cps.toList.map fun c => .str ⟨#[c]⟩
/-- what a loop walks: data that stays -/
def itF : R → Option (List D)
  | .dat (.tup l) => some l
  | .dat (.lst l) => some l
  | .dat (.arg l) => some l
  | .dat (.str s) => some (signsL s)
  | .new l => some l
  | _ => none
def itL : R → Option (List D)
  | .dat (.lst l) => some l
  | .dat (.arg l) => some l
  | .new l => some l
  | _ => none
def zipF : R → R → Option (List D)
  | .dat (.tup l), .dat (.tup m) => some (zipL l m)
  | .dat d, y => match itL (.dat d), itL y with
    | some l, some m => some (zipL l m)
    | _, _ => none
  | _, _ => none
/-- list(range(..)) -/
def lrngR (lo : Int) : R → Hh → Res R
  | .dat (.int j), h => if rngOk lo && rngOk j && decide ((j - lo).toNat ≤ 16777216) then .ok (.new (rngL lo (j - lo).toNat)) h else .bad
  | _, _ => .bad
def lrngR2 : R → R → Hh → Res R
  | .dat (.int i), y, h => lrngR i y h
  | _, _, _ => .bad
/-- a comprehension's loop -/
def compLoop (f : D → Hh → Res (Option D)) : List D → List D → Hh → Res R
  | [], acc, h => .ok (.new acc) h
  | d :: ds, acc, h => match f d h with
    | .ok none h' => compLoop f ds acc h'
    | .ok (some x) h' => if acc.length < sizeLine then compLoop f ds (acc ++ [x]) h' else .bad
    | _ => .bad
/-- the program's refusals -/
def refusals : List Str := ["WayError", "BadThing", "BadKind", "BadPattern", "BadStand", "BadPlace", "TooMany", "BadBook", "BadRow", "NotPlain", "NotNameless", "BadPaper"]
/-- the fields that they bear -/
def fldN (x : Str) : List Str := if x = "BadBook" then ["rule"] else if x = "BadRow" then ["row", "word"] else []
/-- isinstance of a refusal -/
def isxF (k c : Str) : Option Bool := if refusals.contains k then (if c = "ValueError" ∨ c = "WayError" then some true else if refusals.contains c then some (decide (k = c)) else none) else none
def attrF (k : Str) (l : List D) (f : Str) : Option D := if (fldN k).contains f then l[(fldN k).idxOf f]? else none
def noEx : Res R → Res R
  | .ok r h => .ok r h
  | _ => .bad
abbrev Calls' := Str → List D → Hh → Res R
section
variable (C : Calls') (G : Str → Option D)
mutual
def evalE : E → Env' → Hh → Res R
  | .var i, env, h => match env[i]? with
    | some (.val d) => .ok (.dat d) h
    | some (.own l) => .ok (.bor l) h
    | _ => .bad
  | .con d, _, h => .ok (.dat d) h
  | .glo x, _, h => Res.of h ((G x).map .dat)
  | .bin op a b, env, h => (evalE a env h).bind fun x h1 => (evalE b env h1).bind fun y h2 => Res.of h2 (binF h2 op x y)
  | .neg a, env, h => (evalE a env h).bind fun x h1 => Res.of h1 (negF x)
  | .cmp op a b, env, h => (evalE a env h).bind fun x h1 => (evalE b env h1).bind fun y h2 => Res.of h2 ((cmpF h2 op x y).map fun b => .dat (.bl b))
  | .chain p q a b c, env, h => (evalE a env h).bind fun x h1 => (evalE b env h1).bind fun y h2 => match cmpF h2 p x y with
    | some true => (evalE c env h2).bind fun z h3 => Res.of h3 ((cmpF h3 q y z).map fun b => .dat (.bl b))
    | some false => .ok (.dat (.bl false)) h2
    | none => .bad
  | .and2 a b, env, h => (evalE a env h).bind fun x h1 => match x with
    | .dat (.bl true) => evalE b env h1
    | .dat (.bl false) => .ok (.dat (.bl false)) h1
    | _ => .bad
  | .or2 a b, env, h => (evalE a env h).bind fun x h1 => match x with
    | .dat (.bl true) => .ok (.dat (.bl true)) h1
    | .dat (.bl false) => evalE b env h1
    | _ => .bad
  | .not1 a, env, h => (evalE a env h).bind fun x h1 => match x with
    | .dat (.bl k) => .ok (.dat (.bl (!k))) h1
    | _ => .bad
  | .ite c a b, env, h => (evalE c env h).bind fun x h1 => match x with
    | .dat (.bl true) => evalE a env h1
    | .dat (.bl false) => evalE b env h1
    | _ => .bad
  | .call f es, env, h => (evalEs es env h).bind fun ds h1 => C f ds h1
  | .blt f es, env, h => (evalEs es env h).bind fun ds h1 => Res.of h1 (bltF h1 f ds)
  | .blt1 f a, env, h => (evalE a env h).bind fun x h1 => Res.of h1 (bltR h1 f x)
  | .isi a t, env, h => (evalE a env h).bind fun x h1 => match x.fz with
    | some d => Res.of h1 ((isiF h1 t d).map fun b => .dat (.bl b))
    | none => .bad
  | .mth m o es, env, h => (evalE o env h).bind fun x h1 => match x with
    | .dat (.str a) => (evalEs es env h1).bind fun ds h2 => Res.of h2 (mthF m a ds)
    | _ => .bad
  | .ix a b, env, h => (evalE a env h).bind fun x h1 => (evalE b env h1).bind fun y h2 => Res.of h2 ((ixF h2 x y).map .dat)
  | .dget a b, env, h => (evalE a env h).bind fun x h1 => (evalE b env h1).bind fun y h2 => Res.of h2 ((dgetF h2 x y).map .dat)
  | .sl a lo hi, env, h => (evalE a env h).bind fun x h1 => (evalO lo env h1).bind fun i h2 => (evalO hi env h2).bind fun j h3 => Res.of h3 (slF h3 i j x)
  | .tup es, env, h => (evalEs es env h).bind fun ds h1 => if ds.length ≤ sizeLine then .ok (.dat (.tup ds)) h1 else .bad
  | .lst es, env, h => (evalEs es env h).bind fun ds h1 => if ds.length ≤ sizeLine then .ok (.new ds) h1 else .bad
  | .dct ks es, env, h => (evalEs es env h).bind fun ds h1 => if ks.length ≤ 15 ∧ ks.Nodup then .ok (.dat (.ref h1.length)) (h1 ++ [.dct (ks.zip ds)]) else .bad
  | .comp own t it c e, env, h => (evalI it env h).bind fun ds h1 => compLoop (fun d h2 => match t.bind (wipeE env own) d with
    | none => .bad
    | some env' => (evalE c env' h2).bind fun b h3 => match b with
      | .dat (.bl true) => (evalE e env' h3).bind fun x h4 => match x.fz with
        | some y => .ok (some y) h4
        | none => .bad
      | .dat (.bl false) => .ok none h3
      | _ => .bad) ds [] h1
  | .fnv x, _, h => .ok (.dat (.sp false x [])) h
  | .callv i es, env, h => match env[i]? with
    | some (.val (.sp false x _)) => (evalEs es env h).bind fun ds h1 => C x ds h1
    | _ => .bad
  | .isx a c, env, h => (evalE a env h).bind fun x h1 => match x with
    | .dat (.sp true k _) => Res.of h1 ((isxF k c).map fun b => .dat (.bl b))
    | _ => .bad
  | .attr a f, env, h => (evalE a env h).bind fun x h1 => match x with
    | .dat (.sp true k l) => Res.of h1 ((attrF k l f).map .dat)
    | _ => .bad
  | .told f e, env, h => match evalE e env h with
    | .ok r h1 => match r.fz with
      | some d => .ok (.new [d]) h1
      | none => .bad
    | .ex x h1 => noEx (C f [.sp true x.cls x.fs] h1)
    | .bad => .bad
  | .lrng1 a, env, h => (evalE a env h).bind fun x h1 => lrngR 0 x h1
  | .lrng2 a b, env, h => (evalE a env h).bind fun x h1 => (evalE b env h1).bind fun y h2 => lrngR2 x y h2
  | .promo e, env, h => (evalE e env h).bind fun x h1 => match x with
    | .new l => .ok (.dat (.ref h1.length)) (h1 ++ [.lst l])
    | .dat d => .ok (.dat d) h1
    | .bor _ => .bad
def evalO : Oe → Env' → Hh → Res (Option Int)
  | .no, _, h => .ok none h
  | .part e, env, h => (evalE e env h).bind fun x h1 => match x with
    | .dat (.int i) => .ok (some i) h1
    | _ => .bad
def evalEs : Es → Env' → Hh → Res (List D)
  | .nil, _, h => .ok [] h
  | .cons e es, env, h => (evalE e env h).bind fun x h1 => match x.fz with
    | some d => (evalEs es env h1).bind fun ds h2 => .ok (d :: ds) h2
    | none => .bad
def evalI : Iter → Env' → Hh → Res (List D)
  | .seq e, env, h => (evalE e env h).bind fun x h1 => Res.of h1 (itF x)
  | .rng1 a, env, h => (evalE a env h).bind fun x h1 => match x with
    | .dat (.int j) => if rngOk j then .ok (rngL 0 j.toNat) h1 else .bad
    | _ => .bad
  | .rng2 a b, env, h => (evalE a env h).bind fun x h1 => (evalE b env h1).bind fun y h2 => match x, y with
    | .dat (.int i), .dat (.int j) => if rngOk i && rngOk j then .ok (rngL i (j - i).toNat) h2 else .bad
    | _, _ => .bad
  | .rng3 a b c, env, h => (evalE a env h).bind fun x h1 => (evalE b env h1).bind fun y h2 => (evalE c env h2).bind fun z h3 => rng3R x y z h3
  | .enum e, env, h => (evalE e env h).bind fun x h1 => Res.of h1 ((itL x).map (enumL 0))
  | .zip a b, env, h => (evalE a env h).bind fun x h1 => (evalE b env h1).bind fun y h2 => Res.of h2 (zipF x y)
  | .items _, _, _ => .bad
end

mutual
inductive S where
  | asg (i : Nat) (e : E)
  | own (i : Nat) (e : E)
  | any (i : Nat) (e : E)
  | par2 (i j : Nat) (a b : E)
  | asgs (is : List Nat) (e : E)
  | setL (o k e : E)
  | setD (o k e : E)
  | setOwn (i : Nat) (k e : E)
  | app (i : Nat) (e : E)
  | ext (i : Nat) (e : E)
  | expr (e : E)
  | ifs (c : E) (a b : Ss)
  | for' (t : Tg) (it : Iter) (b : Ss)
  | whl (c : E) (b : Ss)
  | ret (e : E) | retV (i : Nat) | retn
  | pass | brk | cnt
  | raise (c : Str) (es : Es)
  | frz (i : Nat) | never
inductive Ss where
  | nil | cons (s : S) (ss : Ss)
end
inductive Fl where
  | nx (env : Env') | rt (r : R) | bk (env : Env') | ct (env : Env')
/-- stored by what it is -/
def stoR (i : Nat) (env : Env') : R → Option Env'
  | .new l => some (env.set i (.own l))
  | .dat d => some (env.set i (.val d))
  | .bor _ => none
def forLoop (t : Tg) (f : Env' → Hh → Res Fl) : List D → Env' → Hh → Res Fl
  | [], env, h => .ok (.nx env) h
  | d :: ds, env, h => match t.bind env d with
    | none => .bad
    | some env1 => match f env1 h with
      | .ok (.nx env2) h2 => forLoop t f ds env2 h2
      | .ok (.ct env2) h2 => forLoop t f ds env2 h2
      | .ok (.bk env2) h2 => .ok (.nx env2) h2
      | .ok (.rt r) h2 => .ok (.rt r) h2
      | .ex x h2 => .ex x h2
      | .bad => .bad
def whlLoop (c : Env' → Hh → Res R) (f : Env' → Hh → Res Fl) : Nat → Env' → Hh → Res Fl
  | 0, _, _ => .bad
  | n + 1, env, h => match c env h with
    | .ok (.dat (.bl true)) h1 => match f env h1 with
      | .ok (.nx env2) h2 => whlLoop c f n env2 h2
      | .ok (.ct env2) h2 => whlLoop c f n env2 h2
      | .ok (.bk env2) h2 => .ok (.nx env2) h2
      | .ok (.rt r) h2 => .ok (.rt r) h2
      | .ex x h2 => .ex x h2
      | .bad => .bad
    | .ok (.dat (.bl false)) h1 => .ok (.nx env) h1
    | .ex x h1 => .ex x h1
    | _ => .bad
def whlMost : Nat := 2 ^ 40
mutual
def execS : S → Env' → Hh → Res Fl
  | .asg i e, env, h => (evalE C G e env h).bind fun x h1 => match x.fz with
    | some d => .ok (.nx (setV env i d)) h1
    | none => .bad
  | .own i e, env, h => (evalE C G e env h).bind fun x h1 => match x with
    | .new l => .ok (.nx (env.set i (.own l))) h1
    | _ => .bad
  | .any i e, env, h => (evalE C G e env h).bind fun x h1 => match x with
    | .new l => .ok (.nx (env.set i (.own l))) h1
    | .dat d => .ok (.nx (setV env i d)) h1
    | .bor _ => .bad
  | .par2 i j a b, env, h => (evalE C G a env h).bind fun x h1 => (evalE C G b env h1).bind fun y h2 => match (stoR i env x).bind fun e1 => stoR j e1 y with
    | some e2 => .ok (.nx e2) h2
    | none => .bad
  | .asgs is e, env, h => (evalE C G e env h).bind fun x h1 => match x with
    | .dat (.tup ds) => match setVs env is ds with
      | some env' => .ok (.nx env') h1
      | none => .bad
    | _ => .bad
  | .setL o k e, env, h => (evalE C G e env h).bind fun v h1 => match v.fz with
    | none => .bad
    | some d => (evalE C G o env h1).bind fun x h2 => (evalE C G k env h2).bind fun y h3 => match x, y with
      | .dat (.ref n), .dat (.int i) => match h3[n]? with
        | some (.lst l) => match ixN l.length i with
          | some j => .ok (.nx env) (h3.set n (.lst (l.set j d)))
          | none => .bad
        | _ => .bad
      | _, _ => .bad
  | .setD o k e, env, h => (evalE C G e env h).bind fun v h1 => match v.fz with
    | none => .bad
    | some d => (evalE C G o env h1).bind fun x h2 => (evalE C G k env h2).bind fun y h3 => match x, y with
      | .dat (.ref n), .dat kd => match h3[n]?, keyOf kd with
        | some (.dct l), some kk => if l.length < sizeLine then .ok (.nx env) (h3.set n (.dct (dPut l kk d))) else .bad
        | _, _ => .bad
      | _, _ => .bad
  | .setOwn i k e, env, h => (evalE C G e env h).bind fun v h1 => match v.fz with
    | none => .bad
    | some d => match env[i]? with
      | some (.own l) => (evalE C G k env h1).bind fun y h2 => match y with
        | .dat (.int z) => match ixN l.length z with
          | some j => .ok (.nx (env.set i (.own (l.set j d)))) h2
          | none => .bad
        | _ => .bad
      | _ => .bad
  | .app i e, env, h => match env[i]? with
    | some (.own l) => (evalE C G e env h).bind fun v h1 => match v.fz with
      | none => .bad
      | some d => if l.length < sizeLine then .ok (.nx (env.set i (.own (l ++ [d])))) h1 else .bad
    | _ => .bad
  | .ext i e, env, h => match env[i]? with
    | some (.own l) => (evalE C G e env h).bind fun v h1 => match lv h1 v with
      | some m => if l.length + m.length ≤ sizeLine then .ok (.nx (env.set i (.own (l ++ m)))) h1 else .bad
      | none => .bad
    | _ => .bad
  | .expr e, env, h => (evalE C G e env h).bind fun _ h1 => .ok (.nx env) h1
  | .ifs c a b, env, h => (evalE C G c env h).bind fun x h1 => match x with
    | .dat (.bl true) => execSs a env h1
    | .dat (.bl false) => execSs b env h1
    | _ => .bad
  | .for' t it b, env, h => (evalI C G it env h).bind fun ds h1 => forLoop t (fun env' h' => execSs b env' h') ds env h1
  | .whl c b, env, h => whlLoop (fun env' h' => evalE C G c env' h') (fun env' h' => execSs b env' h') whlMost env h
  | .ret e, env, h => (evalE C G e env h).bind fun x h1 => match x with
    | .bor _ => .bad
    | r => .ok (.rt r) h1
  | .retV i, env, h => match env[i]? with
    | some (.own l) => .ok (.rt (.new l)) h
    | _ => .bad
  | .retn, _, h => .ok (.rt (.dat .non)) h
  | .pass, env, h => .ok (.nx env) h
  | .brk, env, h => .ok (.bk env) h
  | .cnt, env, h => .ok (.ct env) h
  | .raise c es, env, h => (evalEs C G es env h).bind fun ds h1 => .ex ⟨c, ds⟩ h1
  | .frz i, env, h => match env[i]? with
    | some (.own l) => .ok (.nx (setV env i (.lst l))) h
    | _ => .bad
  | .never, _, _ => .bad
def execSs : Ss → Env' → Hh → Res Fl
  | .nil, env, h => .ok (.nx env) h
  | .cons s ss, env, h => match execS s env h with
    | .ok (.nx env') h' => execSs ss env' h'
    | r => r
end
end
/-- a def: how many parameters, how many names, its body -/
structure Fn where
  pars : Nat
  slots : Nat
  body : Ss
def Fn.env (f : Fn) (ds : List D) : Env' := ds.map .val ++ List.replicate (f.slots - f.pars) .un
abbrev Tab := Str → Option Fn
def runBody (C : Calls') (G : Str → Option D) (f : Fn) (ds : List D) (h : Hh) : Res R :=
  if ds.length = f.pars then
    match execSs C G f.body (f.env ds) h with
    | .ok (.rt r) h' => .ok r h'
    | .ok (.nx _) h' => .ok (.dat .non) h'
    | .ex x h' => .ex x h'
    | _ => .bad
  else .bad
/-- the defs, at most n calls within one another -/
def run (T : Tab) (G : Str → Option D) : Nat → Calls'
  | 0, _, _, _ => .bad
  | n + 1, f, ds, h => match T f with
    | some d => runBody (run T G n) G d ds h
    | none => .bad
end Mi
/-! MiExc1: an exception kept behind the suite that caught it. -/
namespace Mi
open PySem PySem.Spec PyProof.Rows L2

/-- an exception that is kept: its class, its dict -/
def XO (a : Addr) (cls : Value) (d : Option Addr) : HO := .ext fun h => ∃ oe vs, h.get? a = some oe ∧ oe.cls = cls ∧ oe.dict = d ∧ oe.data = .fields vs
section
variable {X : Cx} {pins : List (Addr × Obj)} {σ : L2.St} {H : Hp} {s : Shared} {a : Addr} {cls : Value} {d : Option Addr}
theorem inv_exc {oe : Obj} {vs : Array Value} (I : Inv X pins σ H s) (ha : s.heap.get? a = some oe) (hz : Zc cls d oe) (hd : oe.data = .fields vs) (na : H a = none) (nL : a ≠ X.env.locals)
    (nS : X.s_0.heap.get? a = none) (np : ∀ p ∈ X.pn ++ pins, p.1 ≠ a) : Inv X pins σ (upd H a (XO a cls d)) s := by
  have ne : ∀ {b o}, H b = some o → b ≠ a := fun {b o} e => ne_of_none e na
  refine ⟨I.ok, I.os, I.bare, ⟨I.base.keep, I.base.slot, fun b o e n hx => ?_, I.base.there, fun b xs e => ?_, fun b o xs e => ?_, fun b ps e => ?_⟩, I.loc, I.cell, ?_, fun x c e => ?_, fun p hp => ?_, fun b u e => ?_, I.len⟩
  · have : b ≠ a := fun z => by rw [z, nS] at e; cases e
    rw [upd_ne this]
    exact I.base.free b o e n hx
  · have z := I.base.tups b xs e
    rw [upd_ne (ne z)]
    exact z
  · have z := I.base.frzs b o xs e
    rw [upd_ne (ne z)]
    exact z
  · obtain ⟨more, z⟩ := I.base.tbls b ps e
    exact ⟨more, by rw [upd_ne (ne z)]; exact z⟩
  · rw [upd_ne (Ne.symm nL)]
    exact I.free
  · have : c ≠ a := fun z => by
      obtain ⟨v, o, ho, q⟩ := I.cell x c e
      rw [z, ha] at ho
      cases ho
      rw [hd] at q
      cases q
    rw [upd_ne this]
    exact I.freeC x c e
  · obtain ⟨h1, h2, h3⟩ := I.pin p hp
    exact ⟨h1, by rw [upd_ne (np p hp)]; exact h2, h3⟩
  · by_cases hb : b = a
    · subst hb
      rw [upd_same] at e
      cases e
      exact ⟨⟨oe, vs, ha, hz.1, hz.2, hd⟩, ⟨oe, ha⟩, fun h1 h2 ⟨o, v, e1, e2⟩ st => ⟨o, v, st _ e1, e2⟩⟩
    · rw [upd_ne hb] at e
      refine (I.hok b u e).stay (fun _ _ _ q => q) (fun c q => by rw [upd_ne (ne q)]; exact q) fun c xs q => by rw [upd_ne (ne q)]; exact q
end
/-- what a clause that keeps the exception wishes of one of the body's -/
def wKeep (K : PySem.W.Frag) (c : Value) (i : Nat) (ts : Addr → Value → Option Addr → TS) (Wout : WX) (D : Ends) : WX := fun cls d σ H =>
  ∃ b, PySem.W.exmOne K cls c = some b ∧ (b = true → ∀ a, H a = none → ts a cls d { nx := fun σ' H' => D.nx (σ'.set i none) (upd H' a (XO a cls d)), rt := fun _ _ => False, bk := fun _ _ => False, ct := fun _ _ => False } (σ.set i (some (.ref a))) H) ∧
    (b = false → Wout cls d σ H)
section
variable {X : Cx} {x n : Str} {c : Value} {i : Nat} {body suite : List Stmt} {b₀ : Stmt} {np pos pos' : Pos} {tb : WX → TS} {ts : Addr → Value → Option Addr → TS} {Wout : WX}
/-- try: body / except x as n: suite, where the suite runs to its end: behind it the exception is still known -/
theorem ps_try_keep (hs : X.stack = X.env :: X.outer) (hf : X.env.frame = some X.env.locals) (hex : X.ex = []) (hN : X.N.Nodup) (hi : X.N[i]? = some n) (hln : X.env.kindOf n = some .local) (hc : Names X x c) (tk : Takes X Wout)
    (hb : ∀ (W : WX) (pn : List (Addr × Obj)) (xe : Value → Shared → Prop), Takes (X.tr pn xe) W → PassesOwn (model X.prog X.w) X.A X.env xe → PSs (X.tr pn xe) body (tb W))
    (hsu : ∀ (a : Addr) (oe : Obj) (cls : Value) (d : Option Addr) (pn : List (Addr × Obj)), Zc cls d oe → (∃ vs, oe.data = .fields vs) → PSs (X.suite a ((a, oe) :: pn)) (b₀ :: suite) (ts a cls d)) :
    PS X (.Try body [.ExceptHandler (some (.Name x np)) (some n) (b₀ :: suite) pos'] [] [] pos) (fun D σ H => tb (wKeep X.K c i ts Wout D) D σ H) := by
  refine ⟨fun pins s σ H D I h => ?_⟩
  have ok := I.ok
  have hfr : X.A.frames = some (X.env :: X.outer) := by rw [ok.frames, hs]
  have run := (hb (wKeep X.K c i ts Wout D) (X.pn ++ pins) (fun e s₁ => wpAny (model X.prog X.w) X.A (noteFrame e X.env) (fun _ s₂ => wpAny (model X.prog X.w) X.A (setFlight e none) (fun _ s₃ =>
    wpAny (model X.prog X.w) X.A (handleBy e X.env [.ExceptHandler (some (.Name x np)) (some n) (b₀ :: suite) pos']) (SP X pins D) X.xe s₃) X.xe s₂) X.xe s₁) (fun u s' xx => ?_) PassesOwn.looking).run [] s σ H D (I.toTry _) h
  · refine wpAny_Try_except (wpAny_mono run (fun f s1 q => ?_) fun _ _ q => q)
    cases f with
    | next => let ⟨_, _, J, q⟩ := q; exact wpAny_execs_nil ⟨_, _, J.ofTry ok, q⟩
    | brk => let ⟨_, _, J, q⟩ := q; exact ⟨_, _, J.ofTry ok, q⟩
    | cont => let ⟨_, _, J, q⟩ := q; exact ⟨_, _, J.ofTry ok, q⟩
    | ret u => let ⟨_, _, _, J, r, q⟩ := q; exact ⟨_, _, _, J.ofTry ok, r, q⟩
  obtain ⟨a, B, sI, pins', σ', H', cls, d, rfl, J', nb, up, sky, na, os, ag, b, hb1, hyes, hno⟩ := xx
  have J : Inv X pins σ' H' sI := J'.ofTry ok
  have sky' : Sky B (X.env :: X.outer) a (Zc cls d) X.env.locals s'.heap := by rw [← hs]; exact sky
  show wpAny (model X.prog X.w) X.A (noteFrame (.ref a) X.env) _ _ _
  refine Sky.land Zc.steady hfr hf sky' fun h3 fl3 up3 => ?_
  have apart : ∀ {h : Heap} {o : Obj} {vs : Array Value}, h.FunFrames B (X.env :: X.outer) → h.get? a = some o → o.data = .fields vs → a ≠ X.env.locals ∧ a ∉ X.fs ∧ a ∉ frs X.stack := fun {h o vs} ff e dd => by
    have nf : a ∉ frs (X.env :: X.outer) := fun hm => by
      obtain ⟨_, o', e', q⟩ := ff.mem hm
      rw [e] at e'; cases e'
      exact q _ dd
    refine ⟨fun z => nf (List.mem_filterMap.mpr ⟨X.env, List.mem_cons_self, by rw [hf, z]⟩), fun hm => ?_, by rw [hs]; exact nf⟩
    obtain ⟨e, he, q⟩ := List.mem_filterMap.mp hm
    exact nf (List.mem_filterMap.mpr ⟨e, List.mem_cons_of_mem _ he, q⟩)
  obtain ⟨oe3, vs3, he3, hz3, hd3⟩ := fl3.there
  obtain ⟨nL, nF, nfr⟩ := apart fl3.2.2.1 he3 hd3
  have nB : B.get? a = none := fl3.2.1
  have nI : sI.heap.get? a = none := by
    cases q : sI.heap.get? a with
    | none => rfl
    | some o => have := nb a o q nfr; rw [nB] at this; cases this
  have nS : X.s_0.heap.get? a = none := by
    cases q : X.s_0.heap.get? a with
    | none => rfl
    | some o =>
      obtain ⟨o', z⟩ := J.base.there a o q (by rw [hex]; exact fun z => nomatch z)
      rw [nI] at z; cases z
  have npin : ∀ p ∈ X.pn ++ pins, p.1 ≠ a := fun p hp z => by
    have := (J.pin p hp).1
    rw [z, nI] at this; cases this
  have S3 := (J.landed (s' := { s' with heap := h3 }) nb fl3.1 (up.trans up3) os ag).suite he3 hd3 na nL nF
  refine wpAny_handleBy_cons (codeAny_handlers_test ?_) (by intro q; cases q)
  have LT : PySem.W.Looks (model X.prog X.w) h3 (typeOf (.ref a)) cls := fun A Q E s k q => wpAny_typeOf_ref (k _ _ he3) (by rw [hz3.1]; exact q)
  have LM := PySem.W.exm_one (M := model X.prog X.w) S3.kIn LT hb1
  have test : ∀ {Q : Value → Shared → Prop} {E : Value → Shared → Prop}, Q c { s' with heap := h3 } → wpAny (model X.prog X.w) (X.A.mark (some (.ref a))) (eval (.Name x np) X.env) Q E { s' with heap := h3 } := fun {Q E} q => by
    obtain ⟨hg, hdbg, hm | ⟨hm, hv, hnn⟩⟩ := hc
    · exact ld_glob (X := X.suite a ((a, oe3) :: (X.pn ++ pins))) S3 hg hm q hdbg
    · exact ld_blt (X := X.suite a ((a, oe3) :: (X.pn ++ pins))) S3 hg hm hv q hnn hdbg
  refine test (LM.here ?_)
  cases b with
  | true =>
    refine codeAny_handlers_suite_as (HandSPX.lands_againZ fl3 fun h4 fl4 up4 => ?_)
    obtain ⟨oe4, vs4, he4, hz4, hd4⟩ := fl4.there
    have S4 := (J.landed (s' := { s' with heap := h4 }) nb fl4.1 ((up.trans up3).trans up4) os ag).suite he4 hd4 na nL nF
    refine store_ok (X := X.suite a ((a, oe4) :: (X.pn ++ pins))) (v := .ref a) S4 hN hi (.inl hln) rfl (fun s5 S5 => ?_) (.inr hln)
    refine wpAny_mono ((hsu a oe4 cls d (X.pn ++ pins) hz4 ⟨_, hd4⟩).run [] s5 _ H' _ S5 (hyes rfl a na)) (fun f s6 q => ?_) (fun _ _ z => False.elim z)
    cases f with
    | next =>
      obtain ⟨σ6, H6, S6, q6⟩ := q
      obtain ⟨g1, g2, g3, _⟩ := S6.pin (a, oe4) (List.mem_append_left _ List.mem_cons_self)
      exact gone_ok (inv_exc (S6.unsuite ok) g1 hz4 hd4 g2 g3 nS npin) hN hi hln fun s7 J7 => ⟨_, _, J7, q6⟩
    | brk => let ⟨_, _, _, q⟩ := q; exact q.elim
    | cont => let ⟨_, _, _, q⟩ := q; exact q.elim
    | ret u => let ⟨_, _, _, _, _, q⟩ := q; exact q.elim
  | false =>
    show wpAny _ X.A (handleBy (.ref a) X.env []) _ _ _
    refine wpAny_handleBy_nil ?_
    obtain ⟨_, _, _, oe, vs, T, _, _, he, _, hd, h1, _⟩ := id fl3
    unfold PySem.passOn
    refine wpAny_bind (wpAny_field he hd h1 ?_)
    rw [if_neg (show ¬ ((Value.ref T == Value.none) = true) from by simp)]
    have fin : wpAny (model X.prog X.w) X.A (setFlight (.ref a) X.env.frame) (fun _ s4 => wpAny (model X.prog X.w) X.A (throw (.ref a) : Sem Flow) (SP X pins D) X.xe s4) X.xe { s' with heap := h3 } := by
      rw [hf]
      refine HandSPX.setFlight_upZ fl3 fun h4 hh4 up4 => wpAny_throw (tk _ _ ?_)
      exact ⟨a, B, sI, pins, σ', H', cls, d, rfl, J, nb, (up.trans up3).trans up4, .inr (.inr (by rw [hs]; exact hh4)), na, os, ag, hno rfl⟩
    first
      | exact wpAny_bind (wpAny_pure (wpAny_bind fin))
      | exact wpAny_bind fin
end
/-! ### a kept exception is asked -/
/-- isinstance(e, c), e an exception that is kept -/
def rIsK (K : PySem.W.Frag) : List V → Hp → VK → Prop := fun xs H Q => ∃ (a D : Addr) (d : Option Addr) (c : V) (cv : Value) (b : Bool), xs = [.ref a, c] ∧ H a = some (XO a (.ref D) d) ∧ ExcC K D ∧ (∀ dd, d = some dd → ∃ fs, H dd = some (.xd fs)) ∧
  (∀ u, RelV c u → u = cv) ∧ PySem.W.kitOne K (.ref D) cv = some b ∧ Q (.bl b) H
theorem xo_at {X : Cx} {pins : List (Addr × Obj)} {σ : L2.St} {H : Hp} {s : Shared} {a D : Addr} {d : Option Addr} (I : Inv X pins σ H s) (h : H a = some (XO a (.ref D) d)) (hd : ∀ dd, d = some dd → ∃ fs, H dd = some (.xd fs)) :
    ∃ oe od, PySem.W.InstAt s.heap a oe D od ∧ ∀ dd, d = some dd → ∃ o, od = some o ∧ s.heap.get? dd = some o := by
  obtain ⟨⟨oe, vs, h1, h2, h3, h4⟩, _⟩ := I.hok a _ h
  cases d with
  | none => exact ⟨oe, none, ⟨h1, h2, by unfold PySem.W.notCls; rw [h4] <;> rfl, by rw [h3]; trivial⟩, fun _ z => nomatch z⟩
  | some dd =>
    obtain ⟨fs, hx⟩ := hd dd rfl
    have hx : ObjOk X.prog X.w H s.heap dd (.xd fs) := I.hok dd _ hx
    obtain ⟨mA, hns, _⟩ := hx
    obtain ⟨od, ho, hl⟩ := lookIn_ns hns
    exact ⟨oe, some od, ⟨h1, h2, by unfold PySem.W.notCls; rw [h4] <;> rfl, by rw [h3]; exact ho⟩, fun e z => by cases z; exact ⟨od, rfl, ho⟩⟩
theorem call_isK {X : Cx} : CallR X (.builtin "isinstance") (rIsK X.K) := by
  intro pins s σ H xs us Q I r h
  obtain ⟨a, D, d, c, cv, b, rfl, ha, C, hd, hcv, e, q⟩ := h
  cases r with
  | cons rx rr =>
    cases rr with
    | cons rt rr =>
      cases rr
      cases rx
      have ec := hcv _ rt
      subst ec
      obtain ⟨oe, od, J, _⟩ := xo_at I ha hd
      have hcl : (PySem.W.clsIn X.K D).isSome = true := by
        obtain ⟨cd, hc, _⟩ := PySem.W.any_some C.hd
        rw [hc]; rfl
      exact PySem.W.kia_one (PySem.W.kitx_exc hcl C.hg C.hk C.hs C.ha C.hn C.ht C.hm) I.kIn J e (fun z => nomatch z) fun tk => ⟨.bl b, H, I.kept (t' := tk) fun _ _ z => z, rfl, q⟩
/-- e.f, e an exception that is kept -/
def tXk (K : PySem.W.Frag) (f : Str) (te : TE) : TE := fun σ H Q => te σ H fun x H1 => ∃ (a D dd : Addr) (fs : List (Str × V)) (v : V), x = .ref a ∧ H1 a = some (XO a (.ref D) (some dd)) ∧ XfC K D ∧ PySem.W.findIn K (.ref D) f = some none ∧ H1 dd = some (.xd fs) ∧ fs.lookup f = some v ∧ Q v H1
theorem pe_xk {X : Cx} {e : Expr} {te : TE} {pos : Pos} {n : Str} (he : PE X e te) (hb : attributeBase e n X.env (eval e X.env) = eval e X.env := by rfl) : PE X (.Attribute e n pos) (tXk X.K n te) := by
  refine ⟨fun pins s σ H Q I h => ?_⟩
  refine attr_of hb (thn (he.run pins s σ H _ I h) fun u s1 hh => ?_)
  obtain ⟨x, H1, I1, rx, a, D, dd, fs, v, ex, ha, T, hno, hx, l, q⟩ := hh
  subst ex
  obtain rfl : u = Value.ref a := rx
  obtain ⟨oe, od, J, hod⟩ := xo_at I1 ha fun e z => by cases z; exact ⟨fs, hx⟩
  obtain ⟨o, rfl, ho⟩ := hod dd rfl
  have hx : ObjOk X.prog X.w H1 s1.heap dd (.xd fs) := I1.hok dd _ hx
  obtain ⟨mA, hns, hr⟩ := hx
  obtain ⟨od', ho', hl⟩ := lookIn_ns hns
  rw [ho] at ho'
  cases ho'
  obtain ⟨u, hu, ru⟩ := RelO.some_of (v := v) (o := mA n) (by rw [← l]; exact hr n)
  exact HandSPX.exc_get I1.kIn J T.ga T.gg T.exC (PySem.W.findObj_own T.hdC hno rfl (by rw [hl, hu])) (handed_of ru) ⟨v, H1, I1.tok _, ru, q⟩
end Mi
/-! Mi2: how the small language's data lie in the layer's heap. -/
namespace Mi
open PySem PySem.Spec PyProof.Rows L2

/-- the tables of code objects that lambdas fill: the table's place, the lambda's name -/
class Tb where
  T : PySem.W.Frag → List (Addr × Str)
/-- where a class or a def of the text lies -/
def glA (K : PySem.W.Frag) (x : Str) : Option Addr := match PySem.W.nsIn K mainGlobals x with
  | some (some (.ref a)) => some a
  | _ => none
variable [Tb]
structure Cfg where
  H : Hp
  r : Nat → Addr
  F : Addr → Prop
  n : Nat
/-- a list of the written part, or one that is locked -/
def ArgL (K : PySem.W.Frag) (H : Hp) (a : Addr) (xs : List V) : Prop :=
  (∃ o, H a = some (.frz o (.lst xs))) ∨
    ∃ (o : Obj) (its : Array Value) (n : Nat), K.lookup a = some o ∧ o.cls = .type "list" ∧ o.dict = none ∧ o.data = .seq its n ∧ its.size ≤ sizeLine ∧ Vals xs its.toList
theorem ArgL.seq {K : PySem.W.Frag} {H : Hp} {a : Addr} {xs : List V} (h : ArgL K H a xs) : SqL K H a xs := by
  rcases h with ⟨o, h⟩ | h
  · exact .inl (.inr ⟨o, h⟩)
  · exact .inr h
section
variable (K : PySem.W.Frag) (c : Cfg)
mutual
def RelD : D → V → Prop
  | .non, v => v = .non
  | .bl b, v => v = .bl b
  | .int i, v => v = .int i
  | .str s, v => v = .str s
  | .tup l, v => ∃ a vs, v = .ref a ∧ SqT K c.H a vs ∧ RelDs l vs
  | .lst l, v => ∃ a vs, v = .ref a ∧ c.F a ∧ c.H a = some (.lst vs) ∧ RelDs l vs
  | .arg l, v => ∃ a vs, v = .ref a ∧ ArgL K c.H a vs ∧ RelDs l vs
  | .ref k, v => k < c.n ∧ v = .ref (c.r k)
  | .sp b x l, v => ∃ C, glA K x = some C ∧ if b = true then ∃ a d, v = .ref a ∧ c.H a = some (XO a (.ref C) d) ∧
      ((l = [] ∧ d = none) ∨ ∃ dd fs vs, d = some dd ∧ c.H dd = some (.xd fs) ∧ RelDs l vs ∧ ∀ (i : Nat) (n : Str), (fldN x)[i]? = some n → fs.lookup n = vs[i]?) else v = .ref C ∧ PySem.W.keepIn K (.ref C) = true
def RelDs : List D → List V → Prop
  | [], vs => vs = []
  | d :: l, vs => ∃ v r, vs = v :: r ∧ RelD d v ∧ RelDs l r
end
def RelKv : List (Key × D) → List (Key × V) → Prop
  | [], vs => vs = []
  | (k, d) :: l, vs => ∃ v r, vs = (k, v) :: r ∧ RelD K c d v ∧ RelKv l r
def RelO : O → Option HO → Prop
  | .lst l, o => ∃ vs, o = some (.lst vs) ∧ RelDs K c l vs
  | .dct l, o => ∃ kvs, o = some (.dK kvs) ∧ RelKv K c l kvs
def OwnL (l : List D) (v : V) : Prop := ∃ a vs, v = .ref a ∧ c.H a = some (.lst vs) ∧ ¬ c.F a ∧ (∀ k, k < c.n → c.r k ≠ a) ∧ RelDs K c l vs
def RelR : R → V → Prop
  | .dat d, v => RelD K c d v
  | .new l, v => OwnL K c l v
  | .bor l, v => OwnL K c l v
end
/-- what is new was not there -/
def Fr (H : Hp) : R → V → Prop
  | .new _, .ref a => H a = none
  | _, _ => True
/-- all tables of a heap are told, and good -/
structure TabsOk (K : PySem.W.Frag) (H : Hp) : Prop where
  good : LamX.Tabs (Tb.T K) H
  all : ∀ P ps, H P = some (.tbl ps) → ∃ q, (P, q) ∈ Tb.T K
theorem TabsOk.upd {K : PySem.W.Frag} {H : Hp} {a : Addr} {ho : HO} (t : TabsOk K H) (h1 : ∀ ps, H a ≠ some (.tbl ps)) (h2 : ∀ φ, H a ≠ some (.ext φ)) (no : ∀ ps, ho ≠ .tbl ps) : TabsOk K (upd H a ho) := by
  refine ⟨fun p hp => ?_, fun P ps e => ?_⟩
  · obtain ⟨ps, e1, e2, e3⟩ := t.good p hp
    refine ⟨ps, by rw [upd_ne (fun z => h1 ps (by rw [← z]; exact e1))]; exact e1, e2, fun pos cv hc => ?_⟩
    obtain ⟨c, q1, q2⟩ := e3 pos cv hc
    exact ⟨c, q1, by rw [upd_ne (fun z => h2 _ (by rw [← z]; exact q2))]; exact q2⟩
  · by_cases z : P = a
    · rw [z, upd_same] at e
      exact absurd (Option.some.inj e) (no ps)
    · rw [upd_ne z] at e
      exact t.all P ps e
structure WF (K : PySem.W.Frag) (c : Cfg) (h : Hh) : Prop where
  tabs : TabsOk K c.H
  sz : c.n = h.length
  obj : ∀ k o, h[k]? = some o → RelO K c o (c.H (c.r k))
  inj : ∀ j k, j < c.n → k < c.n → c.r j = c.r k → j = k
  nF : ∀ k, k < c.n → ¬ c.F (c.r k)
  fl : ∀ a, c.F a → ∃ vs, c.H a = some (.lst vs)
/-- what data lean on stays -/
structure Sta (c c' : Cfg) : Prop where
  len : c.n ≤ c'.n
  rho : ∀ k, k < c.n → c'.r k = c.r k
  fr : ∀ a, c.F a → c'.F a
  fls : ∀ a o, c.F a → c.H a = some o → c'.H a = some o
  tups : ∀ a xs, c.H a = some (.tup xs) → c'.H a = some (.tup xs)
  frzs : ∀ a o u, c.H a = some (.frz o u) → c'.H a = some (.frz o u)
  exts : ∀ a φ, c.H a = some (.ext φ) → c'.H a = some (.ext φ)
  xds : ∀ a fs, c.H a = some (.xd fs) → c'.H a = some (.xd fs)
structure Le (c c' : Cfg) : Prop extends Sta c c' where
  newF : ∀ a, c'.F a → c.F a ∨ c.H a = none
  newR : ∀ k, c.n ≤ k → k < c'.n → c.H (c'.r k) = none
  keep : ∀ a o, c.H a = some o → (∀ k, k < c.n → c.r k ≠ a) → (∀ ps, o ≠ .tbl ps) → c'.H a = some o
  stay : ∀ a, c.H a ≠ none → c'.H a ≠ none
theorem Sta.refl (c : Cfg) : Sta c c := ⟨Nat.le_refl _, fun _ _ => rfl, fun _ h => h, fun _ _ _ h => h, fun _ _ h => h, fun _ _ _ h => h, fun _ _ h => h, fun _ _ h => h⟩
theorem Le.refl (c : Cfg) : Le c c := ⟨Sta.refl c, fun _ h => .inl h, fun k h1 h2 => absurd (Nat.lt_of_lt_of_le h2 h1) (Nat.lt_irrefl _), fun _ _ h _ _ => h, fun _ h => h⟩
theorem Sta.trans {c c1 c2 : Cfg} (a : Sta c c1) (b : Sta c1 c2) : Sta c c2 :=
  ⟨Nat.le_trans a.len b.len, fun k hk => (b.rho k (Nat.lt_of_lt_of_le hk a.len)).trans (a.rho k hk), fun x h => b.fr x (a.fr x h), fun x o h1 h2 => b.fls x o (a.fr x h1) (a.fls x o h1 h2),
    fun x xs h => b.tups x xs (a.tups x xs h), fun x o u h => b.frzs x o u (a.frzs x o u h), fun x φ h => b.exts x φ (a.exts x φ h), fun x fs h => b.xds x fs (a.xds x fs h)⟩
theorem Le.trans {c c1 c2 : Cfg} (a : Le c c1) (b : Le c1 c2) : Le c c2 := by
  have back : ∀ x, c1.H x = none → c.H x = none := fun x h => Classical.byContradiction fun q => a.stay x q h
  refine ⟨a.toSta.trans b.toSta, fun x h => ?_, fun k h1 h2 => ?_, fun x o h1 h2 h3 => ?_, fun x h => b.stay x (a.stay x h)⟩
  · rcases b.newF x h with q | q
    · exact a.newF x q
    · exact .inr (back x q)
  · by_cases hk : k < c1.n
    · rw [b.rho k hk]; exact a.newR k h1 hk
    · exact back _ (b.newR k (by omega) h2)
  · refine b.keep x o (a.keep x o h1 h2 h3) (fun k hk e => ?_) h3
    by_cases hk2 : k < c.n
    · rw [a.rho k hk2] at e; exact h2 k hk2 e
    · have z := a.newR k (by omega) hk
      rw [e, h1] at z; cases z
section
variable {K : PySem.W.Frag} {c c' : Cfg}
theorem sqT_sta (st : Sta c c') {a : Addr} {xs : List V} (h : SqT K c.H a xs) : SqT K c'.H a xs := by
  rcases h with (h | ⟨o, h⟩) | h
  · exact .inl (.inl (st.tups _ _ h))
  · exact .inl (.inr ⟨o, st.frzs _ _ _ h⟩)
  · exact .inr h
theorem argL_sta (st : Sta c c') {a : Addr} {xs : List V} (h : ArgL K c.H a xs) : ArgL K c'.H a xs := by
  rcases h with ⟨o, h⟩ | h
  · exact .inl ⟨o, st.frzs _ _ _ h⟩
  · exact .inr h
mutual
theorem RelD.mono (st : Sta c c') : ∀ (d : D) (v : V), RelD K c d v → RelD K c' d v
  | .non, _, h => h
  | .bl _, _, h => h
  | .int _, _, h => h
  | .str _, _, h => h
  | .tup l, v, h => by
    unfold RelD at h ⊢
    obtain ⟨a, vs, e, h1, h2⟩ := h
    exact ⟨a, vs, e, sqT_sta st h1, RelDs.mono st l vs h2⟩
  | .lst l, v, h => by
    unfold RelD at h ⊢
    obtain ⟨a, vs, e, h0, h1, h2⟩ := h
    exact ⟨a, vs, e, st.fr _ h0, st.fls _ _ h0 h1, RelDs.mono st l vs h2⟩
  | .arg l, v, h => by
    unfold RelD at h ⊢
    obtain ⟨a, vs, e, h1, h2⟩ := h
    exact ⟨a, vs, e, argL_sta st h1, RelDs.mono st l vs h2⟩
  | .ref k, v, h => by
    unfold RelD at h ⊢
    exact ⟨Nat.lt_of_lt_of_le h.1 st.len, by rw [st.rho k h.1]; exact h.2⟩
  | .sp b x l, v, h => by
    unfold RelD at h ⊢
    obtain ⟨C, e, h⟩ := h
    refine ⟨C, e, ?_⟩
    cases b with
    | false => exact h
    | true =>
      rw [if_pos rfl] at h ⊢
      obtain ⟨a, d, e1, e2, h⟩ := h
      refine ⟨a, d, e1, st.exts _ _ e2, ?_⟩
      rcases h with h | ⟨dd, fs, vs, q1, q2, q3, q4⟩
      · exact .inl h
      · exact .inr ⟨dd, fs, vs, q1, st.xds _ _ q2, RelDs.mono st l vs q3, q4⟩
theorem RelDs.mono (st : Sta c c') : ∀ (l : List D) (vs : List V), RelDs K c l vs → RelDs K c' l vs
  | [], _, h => h
  | d :: l, vs, h => by
    unfold RelDs at h ⊢
    obtain ⟨v, r, e, h1, h2⟩ := h
    exact ⟨v, r, e, RelD.mono st d v h1, RelDs.mono st l r h2⟩
end
theorem RelKv.mono (st : Sta c c') : ∀ (l : List (Key × D)) (vs : List (Key × V)), RelKv K c l vs → RelKv K c' l vs
  | [], _, h => h
  | (k, d) :: l, vs, h => by
    unfold RelKv at h ⊢
    obtain ⟨v, r, e, h1, h2⟩ := h
    exact ⟨v, r, e, RelD.mono st d v h1, RelKv.mono st l r h2⟩
theorem RelO.mono (st : Sta c c') : ∀ (o : O) (x : Option HO), RelO K c o x → RelO K c' o x
  | .lst l, _, ⟨vs, e, h⟩ => ⟨vs, e, RelDs.mono st l vs h⟩
  | .dct l, _, ⟨vs, e, h⟩ => ⟨vs, e, RelKv.mono st l vs h⟩
theorem OwnL.mono (le : Le c c') {l : List D} {v : V} (h : OwnL K c l v) : OwnL K c' l v := by
  obtain ⟨a, vs, e, h1, h2, h3, h4⟩ := h
  refine ⟨a, vs, e, le.keep a _ h1 h3 (fun _ z => by cases z), fun q => ?_, fun k hk q => ?_, RelDs.mono le.toSta _ _ h4⟩
  · rcases le.newF a q with z | z
    · exact h2 z
    · rw [h1] at z; cases z
  · by_cases hk2 : k < c.n
    · rw [le.rho k hk2] at q; exact h3 k hk2 q
    · have z := le.newR k (by omega) hk
      rw [q, h1] at z; cases z
theorem RelR.mono (le : Le c c') : ∀ {r : R} {v : V}, RelR K c r v → RelR K c' r v
  | .dat d, v, h => RelD.mono le.toSta d v h
  | .new _, _, h => OwnL.mono le h
  | .bor _, _, h => OwnL.mono le h
theorem Fr.mono (le : Le c c') {r : R} {v : V} (h : Fr c'.H r v) : Fr c.H r v := by
  cases r with
  | dat d => exact True.intro
  | bor d => exact True.intro
  | new l =>
    cases v with
    | ref a => exact Classical.byContradiction fun q => le.stay a q h
    | _ => exact True.intro
theorem RelDs.length : ∀ {l : List D} {vs : List V}, RelDs K c l vs → l.length = vs.length
  | [], vs, h => by unfold RelDs at h; subst h; rfl
  | d :: l, vs, h => by
    unfold RelDs at h
    obtain ⟨v, r, e, _, h2⟩ := h
    subst e
    simp [RelDs.length h2]
theorem RelDs.get : ∀ {l : List D} {vs : List V} {i : Nat} {d : D}, RelDs K c l vs → l[i]? = some d → ∃ v, vs[i]? = some v ∧ RelD K c d v
  | [], _, _, _, _, h => by simp at h
  | e :: l, vs, 0, d, h, h2 => by
    unfold RelDs at h
    obtain ⟨v, r, q, h1, _⟩ := h
    subst q
    simp at h2; subst h2
    exact ⟨v, rfl, h1⟩
  | e :: l, vs, i + 1, d, h, h2 => by
    unfold RelDs at h
    obtain ⟨v, r, q, _, h3⟩ := h
    subst q
    obtain ⟨u, h4, h5⟩ := RelDs.get (i := i) h3 (by simpa using h2)
    exact ⟨u, by simpa using h4, h5⟩
theorem RelDs.append : ∀ {l m : List D} {vs us : List V}, RelDs K c l vs → RelDs K c m us → RelDs K c (l ++ m) (vs ++ us)
  | [], m, vs, us, h, h2 => by unfold RelDs at h; subst h; exact h2
  | d :: l, m, vs, us, h, h2 => by
    unfold RelDs at h
    obtain ⟨v, r, e, h1, h3⟩ := h
    subst e
    show RelDs K c (d :: (l ++ m)) (v :: (r ++ us))
    unfold RelDs
    exact ⟨v, r ++ us, rfl, h1, RelDs.append h3 h2⟩
theorem RelDs.take : ∀ {l : List D} {vs : List V} (k : Nat), RelDs K c l vs → RelDs K c (l.take k) (vs.take k)
  | _, _, 0, h => by simp [RelDs]
  | [], vs, k + 1, h => by unfold RelDs at h; subst h; simp [RelDs]
  | d :: l, vs, k + 1, h => by
    unfold RelDs at h
    obtain ⟨v, r, e, h1, h3⟩ := h
    subst e
    show RelDs K c (d :: l.take k) (v :: r.take k)
    unfold RelDs
    exact ⟨v, _, rfl, h1, RelDs.take k h3⟩
theorem RelDs.drop : ∀ {l : List D} {vs : List V} (k : Nat), RelDs K c l vs → RelDs K c (l.drop k) (vs.drop k)
  | _, _, 0, h => by simpa using h
  | [], vs, k + 1, h => by unfold RelDs at h; subst h; simp [RelDs]
  | d :: l, vs, k + 1, h => by
    unfold RelDs at h
    obtain ⟨v, r, e, h1, h3⟩ := h
    subst e
    simpa using RelDs.drop k h3
theorem RelDs.set : ∀ {l : List D} {vs : List V} (k : Nat) {d : D} {v : V}, RelDs K c l vs → RelD K c d v → RelDs K c (l.set k d) (vs.set k v)
  | [], vs, k, d, v, h, hd => by unfold RelDs at h; subst h; simp [RelDs]
  | e :: l, vs, 0, d, v, h, hd => by
    unfold RelDs at h
    obtain ⟨u, r, q, h1, h3⟩ := h
    subst q
    show RelDs K c (d :: l) (v :: r)
    unfold RelDs
    exact ⟨v, r, rfl, hd, h3⟩
  | e :: l, vs, k + 1, d, v, h, hd => by
    unfold RelDs at h
    obtain ⟨u, r, q, h1, h3⟩ := h
    subst q
    show RelDs K c (e :: l.set k d) (u :: r.set k v)
    unfold RelDs
    exact ⟨u, _, rfl, h1, RelDs.set k h3 hd⟩
theorem RelDs.nil : RelDs K c [] [] := by unfold RelDs; rfl
theorem RelDs.one {d : D} {v : V} (h : RelD K c d v) : RelDs K c [d] [v] := by
  unfold RelDs
  exact ⟨v, [], rfl, h, RelDs.nil⟩
theorem RelDs.cons {d : D} {v : V} {l : List D} {vs : List V} (h : RelD K c d v) (t : RelDs K c l vs) : RelDs K c (d :: l) (v :: vs) := by
  unfold RelDs
  exact ⟨v, vs, rfl, h, t⟩
/-- a Le from its parts -/
theorem mkLe {h : Hh} (wf : WF K c h) (len : c.n ≤ c'.n) (rho : ∀ k, k < c.n → c'.r k = c.r k) (fr : ∀ a, c.F a → c'.F a) (newF : ∀ a, c'.F a → c.F a ∨ c.H a = none)
    (newR : ∀ k, c.n ≤ k → k < c'.n → c.H (c'.r k) = none) (keep : ∀ a o, c.H a = some o → (∀ k, k < c.n → c.r k ≠ a) → c'.H a = some o) (stay : ∀ a, c.H a ≠ none → c'.H a ≠ none) : Le c c' := by
  have at_ : ∀ k, k < c.n → (∃ vs, c.H (c.r k) = some (.lst vs)) ∨ ∃ kvs, c.H (c.r k) = some (.dK kvs) := fun k hk => by
    have hk' : k < h.length := by rw [← wf.sz]; exact hk
    have q := wf.obj k _ (List.getElem?_eq_getElem hk')
    cases e : h[k] with
    | lst l => rw [e] at q; obtain ⟨vs, q, _⟩ := q; exact .inl ⟨vs, q⟩
    | dct l => rw [e] at q; obtain ⟨vs, q, _⟩ := q; exact .inr ⟨vs, q⟩
  refine ⟨⟨len, rho, fr, fun a o h1 h2 => keep a o h2 fun k hk e => wf.nF k hk (by rw [e]; exact h1), fun a xs h1 => keep a _ h1 fun k hk e => ?_, fun a o u h1 => keep a _ h1 fun k hk e => ?_, fun a φ h1 => keep a _ h1 fun k hk e => ?_, fun a fs h1 => keep a _ h1 fun k hk e => ?_⟩, newF, newR, fun a o h1 h2 _ => keep a o h1 h2, stay⟩
  · rcases at_ k hk with ⟨vs, q⟩ | ⟨vs, q⟩ <;> (rw [e, h1] at q; cases q)
  · rcases at_ k hk with ⟨vs, q⟩ | ⟨vs, q⟩ <;> (rw [e, h1] at q; cases q)
  · rcases at_ k hk with ⟨vs, q⟩ | ⟨vs, q⟩ <;> (rw [e, h1] at q; cases q)
  · rcases at_ k hk with ⟨vs, q⟩ | ⟨vs, q⟩ <;> (rw [e, h1] at q; cases q)
theorem WF.some {h : Hh} (wf : WF K c h) {k : Nat} (hk : k < c.n) : c.H (c.r k) ≠ none := fun z => by
  have hk' : k < h.length := by rw [← wf.sz]; exact hk
  have q := wf.obj k _ (List.getElem?_eq_getElem hk')
  cases e : h[k] with
  | lst l => rw [e] at q; obtain ⟨vs, q, _⟩ := q; rw [z] at q; cases q
  | dct l => rw [e] at q; obtain ⟨vs, q, _⟩ := q; rw [z] at q; cases q
/-- a new object -/
def Cfg.put (c : Cfg) (p : Addr) (o : HO) : Cfg := { c with H := upd c.H p o }
theorem put_le {h : Hh} (wf : WF K c h) {p : Addr} (hp : c.H p = none) (o : HO) : Le c (c.put p o) := by
  have ne : ∀ {a}, c.H a ≠ none → a ≠ p := fun h e => h (by rw [e]; exact hp)
  refine mkLe wf (Nat.le_refl _) (fun _ _ => rfl) (fun _ h => h) (fun _ h => .inl h) (fun k h1 h2 => absurd (Nat.lt_of_lt_of_le h2 h1) (Nat.lt_irrefl _)) (fun a o' h1 _ => ?_) (fun a h1 => ?_)
  · show upd c.H p o a = _
    rw [upd_ne (ne (by rw [h1]; simp))]; exact h1
  · show upd c.H p o a ≠ _
    rw [upd_ne (ne h1)]; exact h1
theorem put_wf {h : Hh} (wf : WF K c h) {p : Addr} (hp : c.H p = none) (o : HO) (no : ∀ ps, o ≠ .tbl ps := by intro _ z; cases z) : WF K (c.put p o) h := by
  have le := put_le wf hp o
  refine ⟨wf.tabs.upd (fun _ => by rw [hp]; exact fun z => by cases z) (fun _ => by rw [hp]; exact fun z => by cases z) no, wf.sz, fun k ob hk => ?_, wf.inj, wf.nF, fun a ha => ?_⟩
  · have hk' : k < c.n := by rw [wf.sz]; exact (List.getElem?_eq_some_iff.mp hk).1
    have e : (c.put p o).H ((c.put p o).r k) = c.H (c.r k) := by
      show upd c.H p o (c.r k) = _
      exact upd_ne fun e => wf.some hk' (by rw [e]; exact hp)
    rw [e]
    exact RelO.mono le.toSta _ _ (wf.obj k ob hk)
  · obtain ⟨vs, q⟩ := wf.fl a ha
    exact ⟨vs, le.fls a _ ha q⟩
/-- a list just made is frozen -/
def Cfg.freeze (c : Cfg) (a : Addr) : Cfg := { c with F := fun b => c.F b ∨ b = a }
theorem freeze_le {c0 : Cfg} (le : Le c0 c) {a : Addr} (h0 : c0.H a = none) : Le c0 (c.freeze a) := by
  refine ⟨⟨le.len, le.rho, fun x h => .inl (le.fr x h), le.fls, le.tups, le.frzs, le.exts, le.xds⟩, fun x h => ?_, le.newR, le.keep, le.stay⟩
  rcases h with h | h
  · exact le.newF x h
  · rw [h]; exact .inr h0
theorem freeze_sta {a : Addr} : Sta c (c.freeze a) := ⟨Nat.le_refl _, fun _ _ => rfl, fun _ h => .inl h, fun _ _ _ h => h, fun _ _ h => h, fun _ _ _ h => h, fun _ _ h => h, fun _ _ h => h⟩
theorem freeze_wf {h : Hh} (wf : WF K c h) {a : Addr} {vs : List V} (h1 : c.H a = some (.lst vs)) (h3 : ∀ k, k < c.n → c.r k ≠ a) : WF K (c.freeze a) h := by
  refine ⟨wf.tabs, wf.sz, fun k o hk => RelO.mono freeze_sta _ _ (wf.obj k o hk), wf.inj, fun k hk q => ?_, fun x hx => ?_⟩
  · rcases q with q | q
    · exact wf.nF k hk q
    · exact h3 k hk q
  · rcases hx with q | q
    · exact wf.fl x q
    · rw [q]; exact ⟨vs, h1⟩
/-- a list just made goes into the small heap -/
def Cfg.grow (c : Cfg) (a : Addr) : Cfg := { c with r := fun k => if k = c.n then a else c.r k, n := c.n + 1 }
theorem grow_r {a : Addr} {k : Nat} (hk : k < c.n) : (c.grow a).r k = c.r k := by
  show (if k = c.n then a else c.r k) = _
  rw [if_neg (by omega)]
theorem grow_n {a : Addr} : (c.grow a).r c.n = a := by
  show (if c.n = c.n then a else _) = _
  rw [if_pos rfl]
theorem grow_sta {a : Addr} : Sta c (c.grow a) := ⟨Nat.le_succ _, fun k hk => grow_r hk, fun _ h => h, fun _ _ _ h => h, fun _ _ h => h, fun _ _ _ h => h, fun _ _ h => h, fun _ _ h => h⟩
theorem grow_le {c0 : Cfg} (le : Le c0 c) {a : Addr} (h0 : c0.H a = none) : Le c0 (c.grow a) := by
  refine ⟨⟨Nat.le_succ_of_le le.len, fun k hk => (grow_r (Nat.lt_of_lt_of_le hk le.len)).trans (le.rho k hk), le.fr, le.fls, le.tups, le.frzs, le.exts, le.xds⟩, le.newF, fun k h1 h2 => ?_, le.keep, le.stay⟩
  have h2' : k < c.n + 1 := h2
  by_cases hk : k < c.n
  · rw [grow_r hk]; exact le.newR k h1 hk
  · have e : k = c.n := by omega
    rw [e, grow_n]; exact h0
theorem grow_wf {h : Hh} (wf : WF K c h) {a : Addr} {o : O} (h1 : RelO K c o (c.H a)) (h2 : ¬ c.F a) (h3 : ∀ k, k < c.n → c.r k ≠ a) : WF K (c.grow a) (h ++ [o]) := by
  refine ⟨wf.tabs, by show c.n + 1 = _; rw [List.length_append, wf.sz]; rfl, fun k ob hk => ?_, fun j k hj hk e => ?_, fun k hk => ?_, wf.fl⟩
  · by_cases hk2 : k < c.n
    · rw [grow_r hk2]
      rw [List.getElem?_append_left (by rw [← wf.sz]; exact hk2)] at hk
      exact RelO.mono grow_sta _ _ (wf.obj k ob hk)
    · have e : k = h.length := by
        have := (List.getElem?_eq_some_iff.mp hk).1
        rw [List.length_append] at this
        simp at this
        have := wf.sz
        omega
      subst e
      rw [List.getElem?_append_right (Nat.le_refl _), Nat.sub_self] at hk
      simp at hk
      subst hk
      rw [← wf.sz, grow_n]
      exact RelO.mono grow_sta _ _ h1
  · have hj' : j < c.n + 1 := hj
    have hk' : k < c.n + 1 := hk
    by_cases a1 : j < c.n
    · by_cases a2 : k < c.n
      · rw [grow_r a1, grow_r a2] at e; exact wf.inj j k a1 a2 e
      · have : k = c.n := by omega
        subst this
        rw [grow_r a1, grow_n] at e
        exact absurd e (h3 j a1)
    · have : j = c.n := by omega
      subst this
      by_cases a2 : k < c.n
      · rw [grow_n, grow_r a2] at e
        exact absurd e.symm (h3 k a2)
      · omega
  · have hk' : k < c.n + 1 := hk
    by_cases a2 : k < c.n
    · rw [grow_r a2]; exact wf.nF k a2
    · have : k = c.n := by omega
      subst this
      rw [grow_n]; exact h2
/-- an owned list is written -/
theorem own_sta {a : Addr} {vs ws : List V} (h1 : c.H a = some (.lst vs)) (h2 : ¬ c.F a) : Sta c (c.put a (.lst ws)) := by
  refine ⟨Nat.le_refl _, fun _ _ => rfl, fun _ h => h, fun x o hF hx => ?_, fun x xs hx => ?_, fun x o u hx => ?_, fun x φ hx => ?_, fun x fs hx => ?_⟩
  · show upd c.H a _ x = _
    rw [upd_ne (fun e => h2 (by rw [← e]; exact hF))]; exact hx
  · show upd c.H a _ x = _
    rw [upd_ne (fun e => by rw [e, h1] at hx; cases hx)]; exact hx
  · show upd c.H a _ x = _
    rw [upd_ne (fun e => by rw [e, h1] at hx; cases hx)]; exact hx
  · show upd c.H a _ x = _
    rw [upd_ne (fun e => by rw [e, h1] at hx; cases hx)]; exact hx
  · show upd c.H a _ x = _
    rw [upd_ne (fun e => by rw [e, h1] at hx; cases hx)]; exact hx
theorem own_le {c0 : Cfg} (le : Le c0 c) {a : Addr} {vs ws : List V} (h0 : c0.H a = none) (h1 : c.H a = some (.lst vs)) (h2 : ¬ c.F a) : Le c0 (c.put a (.lst ws)) := by
  have st := own_sta (ws := ws) h1 h2
  refine ⟨le.toSta.trans st, le.newF, le.newR, fun x o hx hr nt => ?_, fun x hx => ?_⟩
  · show upd c.H a _ x = _
    rw [upd_ne (fun e => by rw [e, h0] at hx; cases hx)]
    exact le.keep x o hx hr nt
  · show upd c.H a _ x ≠ _
    by_cases e : x = a
    · rw [e, upd_same]; simp
    · rw [upd_ne e]; exact le.stay x hx
theorem own_wf {h : Hh} (wf : WF K c h) {a : Addr} {vs ws : List V} (h1 : c.H a = some (.lst vs)) (h2 : ¬ c.F a) (h3 : ∀ k, k < c.n → c.r k ≠ a) : WF K (c.put a (.lst ws)) h := by
  have st := own_sta (ws := ws) h1 h2
  refine ⟨wf.tabs.upd (fun _ => by rw [h1]; exact fun z => by cases z) (fun _ => by rw [h1]; exact fun z => by cases z) (fun _ z => by cases z), wf.sz, fun k o hk => ?_, wf.inj, wf.nF, fun x hx => ?_⟩
  · have hk' : k < c.n := by rw [wf.sz]; exact (List.getElem?_eq_some_iff.mp hk).1
    have e : (c.put a (.lst ws)).H ((c.put a (.lst ws)).r k) = c.H (c.r k) := upd_ne (h3 k hk')
    rw [e]
    exact RelO.mono st _ _ (wf.obj k o hk)
  · obtain ⟨us, q⟩ := wf.fl x hx
    exact ⟨us, st.fls x _ hx q⟩
/-- an object of the small heap is written -/
theorem ref_sta {h : Hh} (wf : WF K c h) {k : Nat} (hk : k < c.n) (ho : HO) : Sta c (c.put (c.r k) ho) := by
  have at_ : ∀ xs, c.H (c.r k) ≠ some (.tup xs) := fun xs z => by
    have hk' : k < h.length := by rw [← wf.sz]; exact hk
    have q := wf.obj k _ (List.getElem?_eq_getElem hk')
    cases e : h[k] with
    | lst l => rw [e] at q; obtain ⟨vs, q, _⟩ := q; rw [z] at q; cases q
    | dct l => rw [e] at q; obtain ⟨vs, q, _⟩ := q; rw [z] at q; cases q
  have at2 : ∀ o u, c.H (c.r k) ≠ some (.frz o u) := fun o u z => by
    have hk' : k < h.length := by rw [← wf.sz]; exact hk
    have q := wf.obj k _ (List.getElem?_eq_getElem hk')
    cases e : h[k] with
    | lst l => rw [e] at q; obtain ⟨vs, q, _⟩ := q; rw [z] at q; cases q
    | dct l => rw [e] at q; obtain ⟨vs, q, _⟩ := q; rw [z] at q; cases q
  have at3 : ∀ φ, c.H (c.r k) ≠ some (.ext φ) := fun φ z => by
    have hk' : k < h.length := by rw [← wf.sz]; exact hk
    have q := wf.obj k _ (List.getElem?_eq_getElem hk')
    cases e : h[k] with
    | lst l => rw [e] at q; obtain ⟨vs, q, _⟩ := q; rw [z] at q; cases q
    | dct l => rw [e] at q; obtain ⟨vs, q, _⟩ := q; rw [z] at q; cases q
  have at4 : ∀ fs, c.H (c.r k) ≠ some (.xd fs) := fun fs z => by
    have hk' : k < h.length := by rw [← wf.sz]; exact hk
    have q := wf.obj k _ (List.getElem?_eq_getElem hk')
    cases e : h[k] with
    | lst l => rw [e] at q; obtain ⟨vs, q, _⟩ := q; rw [z] at q; cases q
    | dct l => rw [e] at q; obtain ⟨vs, q, _⟩ := q; rw [z] at q; cases q
  refine ⟨Nat.le_refl _, fun _ _ => rfl, fun _ h => h, fun x o hF hx => ?_, fun x xs hx => ?_, fun x o u hx => ?_, fun x φ hx => ?_, fun x fs hx => ?_⟩
  · show upd c.H _ _ x = _
    rw [upd_ne (fun e => wf.nF k hk (by rw [← e]; exact hF))]; exact hx
  · show upd c.H _ _ x = _
    rw [upd_ne (fun e => at_ xs (by rw [← e]; exact hx))]; exact hx
  · show upd c.H _ _ x = _
    rw [upd_ne (fun e => at2 o u (by rw [← e]; exact hx))]; exact hx
  · show upd c.H _ _ x = _
    rw [upd_ne (fun e => at3 φ (by rw [← e]; exact hx))]; exact hx
  · show upd c.H _ _ x = _
    rw [upd_ne (fun e => at4 fs (by rw [← e]; exact hx))]; exact hx
theorem ref_le {h : Hh} (wf : WF K c h) {k : Nat} (hk : k < c.n) (ho : HO) : Le c (c.put (c.r k) ho) := by
  refine ⟨ref_sta wf hk ho, fun _ h => .inl h, fun j h1 h2 => absurd (Nat.lt_of_lt_of_le h2 h1) (Nat.lt_irrefl _), fun a o h1 h2 _ => ?_, fun a h1 => ?_⟩
  · show upd c.H _ _ a = _
    rw [upd_ne (fun e => h2 k hk e.symm)]; exact h1
  · show upd c.H _ _ a ≠ _
    by_cases e : a = c.r k
    · rw [e, upd_same]; simp
    · rw [upd_ne e]; exact h1
theorem ref_wf {h : Hh} (wf : WF K c h) {k : Nat} (hk : k < c.n) {ho : HO} {o : O} (q : RelO K c o (some ho)) : WF K (c.put (c.r k) ho) (h.set k o) := by
  have st := ref_sta wf hk ho
  have shp : (∃ vs, c.H (c.r k) = some (.lst vs)) ∨ ∃ kvs, c.H (c.r k) = some (.dK kvs) := by
    have hk' : k < h.length := by rw [← wf.sz]; exact hk
    have q := wf.obj k _ (List.getElem?_eq_getElem hk')
    cases e : h[k] with
    | lst l => rw [e] at q; obtain ⟨vs, q, _⟩ := q; exact .inl ⟨vs, q⟩
    | dct l => rw [e] at q; obtain ⟨vs, q, _⟩ := q; exact .inr ⟨vs, q⟩
  have tb : TabsOk K (upd c.H (c.r k) ho) := wf.tabs.upd (fun ps z => by rcases shp with ⟨_, e⟩ | ⟨_, e⟩ <;> (rw [e] at z; cases z)) (fun φ z => by rcases shp with ⟨_, e⟩ | ⟨_, e⟩ <;> (rw [e] at z; cases z)) (fun ps z => by
    cases o with
    | lst l => obtain ⟨vs, q, _⟩ := q; rw [z] at q; cases q
    | dct l => obtain ⟨vs, q, _⟩ := q; rw [z] at q; cases q)
  refine ⟨tb, by rw [List.length_set]; exact wf.sz, fun j ob hj => ?_, wf.inj, wf.nF, fun x hx => ?_⟩
  · have hj' : j < c.n := by
      have := (List.getElem?_eq_some_iff.mp hj).1
      rw [List.length_set] at this
      rw [wf.sz]; exact this
    by_cases e : j = k
    · subst e
      rw [List.getElem?_set_self (by rw [← wf.sz]; exact hk)] at hj
      cases hj
      have e2 : (c.put (c.r j) ho).H ((c.put (c.r j) ho).r j) = some ho := upd_same
      rw [e2]
      exact RelO.mono st _ _ q
    · rw [List.getElem?_set_ne (Ne.symm e)] at hj
      have e2 : (c.put (c.r k) ho).H ((c.put (c.r k) ho).r j) = c.H (c.r j) := upd_ne fun z => e (wf.inj j k hj' hk z)
      rw [e2]
      exact RelO.mono st _ _ (wf.obj j ob hj)
  · obtain ⟨us, q⟩ := wf.fl x hx
    exact ⟨us, st.fls x _ hx q⟩
end

/-! ### names -/
def RelS (K : PySem.W.Frag) (He : Hp) (c : Cfg) : Slot → Option V → Prop
  | .un, _ => True
  | .val d, x => ∃ v, x = some v ∧ RelD K c d v
  | .own l, x => ∃ a, x = some (.ref a) ∧ OwnL K c l (.ref a) ∧ He a = none
structure RelEnv (K : PySem.W.Frag) (He : Hp) (c : Cfg) (env : Env') (σ : L2.St) : Prop where
  len : env.length = σ.length
  sl : ∀ (i : Nat) (s : Slot), env[i]? = some s → ∃ x : Option V, σ[i]? = some x ∧ RelS K He c s x
  ap : ∀ (i j : Nat) (l m : List D) (a : Addr), env[i]? = some (.own l) → env[j]? = some (.own m) → σ[i]? = some (some (.ref a)) → σ[j]? = some (some (.ref a)) → i = j
section
variable {K : PySem.W.Frag} {c c' : Cfg} {He : Hp} {env : Env'} {σ : L2.St}
theorem RelS.mono (le : Le c c') : ∀ {s : Slot} {x : Option V}, RelS K He c s x → RelS K He c' s x
  | .un, _, _ => True.intro
  | .val d, _, ⟨v, e, h⟩ => ⟨v, e, RelD.mono le.toSta d v h⟩
  | .own l, _, ⟨a, e, h, z⟩ => ⟨a, e, OwnL.mono le h, z⟩
theorem RelEnv.mono (le : Le c c') (h : RelEnv K He c env σ) : RelEnv K He c' env σ :=
  ⟨h.len, fun i s e => let ⟨x, e1, e2⟩ := h.sl i s e; ⟨x, e1, RelS.mono le e2⟩, h.ap⟩
/-- a slot gets data -/
theorem RelEnv.put (h : RelEnv K He c env σ) (i : Nat) {d : D} {v : V} (r : RelD K c d v) : RelEnv K He c (setV env i d) (σ.set i (some v)) := by
  refine ⟨by unfold setV; simp [h.len], fun j s e => ?_, fun j k l m a e1 e2 f1 f2 => ?_⟩
  · unfold setV at e
    by_cases hj : j = i
    · subst hj
      have hl : j < env.length := by
        have := (List.getElem?_eq_some_iff.mp e).1
        simpa using this
      rw [List.getElem?_set_self hl] at e
      cases e
      exact ⟨some v, List.getElem?_set_self (by rw [← h.len]; exact hl), v, rfl, r⟩
    · rw [List.getElem?_set_ne (Ne.symm hj)] at e
      rw [List.getElem?_set_ne (Ne.symm hj)]
      exact h.sl j s e
  · unfold setV at e1 e2
    have nj : j ≠ i := fun z => by
      subst z
      have hl : j < env.length := by
        have := (List.getElem?_eq_some_iff.mp e1).1
        simpa using this
      rw [List.getElem?_set_self hl] at e1; cases e1
    have nk : k ≠ i := fun z => by
      subst z
      have hl : k < env.length := by
        have := (List.getElem?_eq_some_iff.mp e2).1
        simpa using this
      rw [List.getElem?_set_self hl] at e2; cases e2
    rw [List.getElem?_set_ne (Ne.symm nj)] at e1 f1
    rw [List.getElem?_set_ne (Ne.symm nk)] at e2 f2
    exact h.ap j k l m a e1 e2 f1 f2
/-- a slot gets a list that nobody has -/
theorem RelEnv.putOwn (h : RelEnv K He c env σ) (i : Nat) {l : List D} {a : Addr} (r : OwnL K c l (.ref a)) (hz : He a = none) (hn : ∀ j m, j ≠ i → env[j]? = some (.own m) → σ[j]? ≠ some (some (.ref a))) :
    RelEnv K He c (env.set i (.own l)) (σ.set i (some (.ref a))) := by
  have at_ : ∀ {j : Nat} {s : Slot}, (env.set i (.own l))[j]? = some s → (j = i ∧ s = .own l ∧ i < env.length) ∨ (j ≠ i ∧ env[j]? = some s) := fun {j s} e => by
    by_cases hj : j = i
    · subst hj
      have hl : j < env.length := by
        have := (List.getElem?_eq_some_iff.mp e).1
        simpa using this
      rw [List.getElem?_set_self hl] at e
      cases e
      exact .inl ⟨rfl, rfl, hl⟩
    · rw [List.getElem?_set_ne (Ne.symm hj)] at e
      exact .inr ⟨hj, e⟩
  refine ⟨by simp [h.len], fun j s e => ?_, fun j k l' m b e1 e2 f1 f2 => ?_⟩
  · rcases at_ e with ⟨rfl, rfl, hl⟩ | ⟨hj, e⟩
    · exact ⟨some (.ref a), List.getElem?_set_self (by rw [← h.len]; exact hl), a, rfl, r, hz⟩
    · rw [List.getElem?_set_ne (Ne.symm hj)]
      exact h.sl j s e
  · rcases at_ e1 with ⟨q1, _, hl⟩ | ⟨hj, g1⟩
    · rcases at_ e2 with ⟨q2, _, _⟩ | ⟨hk, g2⟩
      · rw [q1, q2]
      · rw [q1, List.getElem?_set_self (by rw [← h.len]; exact hl)] at f1
        rw [List.getElem?_set_ne (Ne.symm hk)] at f2
        cases f1
        exact absurd f2 (hn k m hk g2)
    · rcases at_ e2 with ⟨q2, _, hl⟩ | ⟨hk, g2⟩
      · rw [q2, List.getElem?_set_self (by rw [← h.len]; exact hl)] at f2
        rw [List.getElem?_set_ne (Ne.symm hj)] at f1
        cases f2
        exact absurd f1 (hn j l' hj g1)
      · rw [List.getElem?_set_ne (Ne.symm hj)] at f1
        rw [List.getElem?_set_ne (Ne.symm hk)] at f2
        exact h.ap j k l' m b g1 g2 f1 f2
theorem RelEnv.val (h : RelEnv K He c env σ) {i : Nat} {d : D} (e : env[i]? = some (.val d)) : ∃ v, σ[i]? = some (some v) ∧ RelD K c d v := by
  obtain ⟨x, e1, v, e2, r⟩ := h.sl i _ e
  exact ⟨v, by rw [e1, e2], r⟩
theorem RelEnv.own (h : RelEnv K He c env σ) {i : Nat} {l : List D} (e : env[i]? = some (.own l)) : ∃ a, σ[i]? = some (some (.ref a)) ∧ OwnL K c l (.ref a) ∧ He a = none := by
  obtain ⟨x, e1, a, e2, r, z⟩ := h.sl i _ e
  exact ⟨a, by rw [e1, e2], r, z⟩
/-- the owned list of a slot is written -/
theorem RelEnv.write (h : RelEnv K He c env σ) {i : Nat} {l m : List D} {a : Addr} {vs ws : List V} (e : env[i]? = some (.own l)) (ea : σ[i]? = some (some (.ref a))) (h1 : c.H a = some (.lst vs)) (h2 : ¬ c.F a)
    (h3 : ∀ k, k < c.n → c.r k ≠ a) (hz : He a = none) (r : RelDs K (c.put a (.lst ws)) m ws) : RelEnv K He (c.put a (.lst ws)) (env.set i (.own m)) σ := by
  have st := own_sta (ws := ws) h1 h2
  have hl : i < env.length := (List.getElem?_eq_some_iff.mp e).1
  refine ⟨by simp [h.len], fun j s ej => ?_, fun j k l' m' b e1 e2 f1 f2 => ?_⟩
  · by_cases hj : j = i
    · subst hj
      rw [List.getElem?_set_self hl] at ej
      cases ej
      exact ⟨_, ea, a, rfl, ⟨a, ws, rfl, upd_same, h2, h3, r⟩, hz⟩
    · rw [List.getElem?_set_ne (Ne.symm hj)] at ej
      obtain ⟨x, e1, e2⟩ := h.sl j s ej
      refine ⟨x, e1, ?_⟩
      cases s with
      | un => exact True.intro
      | val d => obtain ⟨v, q1, q2⟩ := e2; exact ⟨v, q1, RelD.mono st d v q2⟩
      | own l' =>
        obtain ⟨b, q1, ⟨b', us, q2, q3, q4, q5, q6⟩, q7⟩ := e2
        cases q2
        have nb : b ≠ a := fun z => by
          subst z
          exact hj (h.ap j i l' l b ej e (by rw [e1, q1]) ea)
        exact ⟨b, q1, ⟨b, us, rfl, by show upd c.H a _ b = _; rw [upd_ne nb]; exact q3, q4, q5, RelDs.mono st _ _ q6⟩, q7⟩
  · have back : ∀ {j : Nat} {l' : List D}, (env.set i (.own m))[j]? = some (.own l') → ∃ l'', env[j]? = some (.own l'') := fun {j l'} ej => by
      by_cases hj : j = i
      · subst hj; exact ⟨l, e⟩
      · rw [List.getElem?_set_ne (Ne.symm hj)] at ej; exact ⟨l', ej⟩
    obtain ⟨_, g1⟩ := back e1
    obtain ⟨_, g2⟩ := back e2
    exact h.ap j k _ _ b g1 g2 f1 f2
theorem wipeE_length (env : Env') : ∀ vs : List Nat, (wipeE env vs).length = env.length
  | [] => rfl
  | v :: vs => by unfold wipeE; rw [List.length_set, wipeE_length env vs]
theorem wipeE_some {i : Nat} {s : Slot} : ∀ {vs : List Nat}, (wipeE env vs)[i]? = some s → s = .un ∨ (env[i]? = some s ∧ i ∉ vs)
  | [], h => .inr ⟨h, by simp⟩
  | v :: vs, h => by
    unfold wipeE at h
    by_cases hi : i = v
    · subst hi
      by_cases hv : i < (wipeE env vs).length
      · rw [List.getElem?_set_self hv] at h; cases h; exact .inl rfl
      · rw [List.getElem?_eq_none (by simpa using hv)] at h; cases h
    · rw [List.getElem?_set_ne (Ne.symm hi)] at h
      rcases wipeE_some h with h | ⟨h1, h2⟩
      · exact .inl h
      · exact .inr ⟨h1, by simp only [List.mem_cons, not_or]; exact ⟨hi, h2⟩⟩
theorem wipe_at {σ : L2.St} {i : Nat} : ∀ {vs : List Nat}, i ∉ vs → (wipe σ vs)[i]? = σ[i]?
  | [], _ => rfl
  | v :: vs, h => by
    simp only [List.mem_cons, not_or] at h
    unfold wipe
    rw [List.getElem?_set_ne (Ne.symm h.1)]
    exact wipe_at h.2
theorem RelEnv.wipe (h : RelEnv K He c env σ) (vs : List Nat) : RelEnv K He c (wipeE env vs) (wipe σ vs) := by
  refine ⟨by rw [wipeE_length, wipe_length]; exact h.len, fun i s e => ?_, fun i j l m a e1 e2 f1 f2 => ?_⟩
  · rcases wipeE_some e with rfl | ⟨e', hi⟩
    · have hl : i < (L2.wipe σ vs).length := by
        have := (List.getElem?_eq_some_iff.mp e).1
        rw [wipeE_length] at this
        rw [wipe_length, ← h.len]; exact this
      exact ⟨_, List.getElem?_eq_getElem hl, True.intro⟩
    · obtain ⟨x, e1, e2⟩ := h.sl i s e'
      exact ⟨x, by rw [wipe_at hi]; exact e1, e2⟩
  · rcases wipeE_some e1 with q | ⟨e1, hi⟩
    · cases q
    · rcases wipeE_some e2 with q | ⟨e2, hj⟩
      · cases q
      · rw [wipe_at hi] at f1
        rw [wipe_at hj] at f2
        exact h.ap i j l m a e1 e2 f1 f2
end

/-! ### what an answer must bring -/
abbrev EWish := Exc → Cfg → Hh → Prop
def Post {α β : Type} (K : PySem.W.Frag) (EW : EWish) (c : Cfg) (Rl : Cfg → α → β → Prop) (Q : β → Hp → Prop) : Res α → Prop
  | .bad => False
  | .ok a h' => ∀ c' v, Le c c' → WF K c' h' → Rl c' a v → Q v c'.H
  | .ex x h' => ∀ c', Le c c' → WF K c' h' → EW x c' h'
section
variable {K : PySem.W.Frag} {EW : EWish} {c c1 : Cfg} {α β γ δ : Type} {Rl : Cfg → α → β → Prop} {Q : β → Hp → Prop}
theorem Post.lift {Rl' : Cfg → α → β → Prop} {res : Res α} (le : Le c c1) (hr : ∀ c' a v, Rl' c' a v → Rl c' a v) (p : Post K EW c Rl Q res) : Post K EW c1 Rl' Q res := by
  cases res with
  | bad => exact p
  | ok a h => exact fun c' v l w r => p c' v (le.trans l) w (hr _ _ _ r)
  | ex x h => exact fun c' l w => p c' (le.trans l) w
theorem Post.bind {res : Res γ} {f : γ → Hh → Res α} {Rl1 : Cfg → γ → δ → Prop} {Q1 : δ → Hp → Prop} (p : Post K EW c Rl Q (res.bind f))
    (k : ∀ a h1 c1 v1, Le c c1 → WF K c1 h1 → Rl1 c1 a v1 → Post K EW c Rl Q (f a h1) → Q1 v1 c1.H) : Post K EW c Rl1 Q1 res := by
  cases res with
  | bad => exact p
  | ok a h => exact fun c1 v l w r => k a h c1 v l w r p
  | ex x h => exact p
end
section
variable {K : PySem.W.Frag} {EW : EWish} {c c0 : Cfg} {α β γ δ : Type} {Rl : Cfg → α → β → Prop} {Q : β → Hp → Prop}
theorem Post.bind2 {res : Res γ} {f : γ → Hh → Res α} {Rl1 : Cfg → γ → δ → Prop} {Q1 : δ → Hp → Prop} (p : Post K EW c Rl Q (res.bind f)) (le : Le c c0)
    (k : ∀ a h1 c1 v1, Le c0 c1 → WF K c1 h1 → Rl1 c1 a v1 → Post K EW c Rl Q (f a h1) → Q1 v1 c1.H) : Post K EW c0 Rl1 Q1 res := by
  cases res with
  | bad => exact p
  | ok a h => exact fun c1 v l w r => k a h c1 v l w r p
  | ex x h => exact fun c1 l w => p c1 (le.trans l) w
end
/-- an expression's relation: what is made is new since c0 -/
def RE (K : PySem.W.Frag) (c0 : Cfg) : Cfg → R → V → Prop := fun c r v => RelR K c r v ∧ Fr c0.H r v
abbrev PostE (K : PySem.W.Frag) (EW : EWish) (c : Cfg) (Q : VK) (res : Res R) : Prop := Post K EW c (RE K c) Q res
theorem PostE.lift {K : PySem.W.Frag} {EW : EWish} {c c1 : Cfg} {Q : VK} {res : Res R} (le : Le c c1) (p : PostE K EW c Q res) : PostE K EW c1 Q res :=
  Post.lift le (fun _ _ _ h => ⟨h.1, Fr.mono le h.2⟩) p
end Mi
/-! Mi3: the machine does what the evaluator says: expressions. -/
namespace Mi
open PySem PySem.Spec PyProof.Rows L2
variable [Tb]

/-- the names of the top that hold data -/
def Glob (K : PySem.W.Frag) (mg : Str → Option Value) (G : Str → Option D) : Prop :=
  ∀ x d, G x = some d → ∃ v u, mg x = some u ∧ RelV v u ∧ ∀ c, RelD K c d v
section
variable (K : PySem.W.Frag) (EW : EWish) (C : Calls') (G : Str → Option D)
def tE (e : E) : TE := fun σ H Q => ∃ (He : Hp) (c : Cfg) (h : Hh) (env : Env'), c.H = H ∧ WF K c h ∧ RelEnv K He c env σ ∧ PostE K EW c Q (evalE C G e env h)
def tT (e : E) : TT := tB (tE K EW C G e)
def RA (K : PySem.W.Frag) : Cfg → List D → List V → Prop := fun c ds vs => RelDs K c ds vs
def tA (es : Es) : TA := fun σ H Q => ∃ (He : Hp) (c : Cfg) (h : Hh) (env : Env'), c.H = H ∧ WF K c h ∧ RelEnv K He c env σ ∧ Post K EW c (RA K) Q (evalEs C G es env h)
def RO : Cfg → Option Int → Option Int → Prop := fun _ x y => x = y
def tO (e : Oe) : TO := fun σ H Q => ∃ (He : Hp) (c : Cfg) (h : Hh) (env : Env'), c.H = H ∧ WF K c h ∧ RelEnv K He c env σ ∧ Post K EW c RO Q (evalO C G e env h)
end
theorem _root_.L2.PE.imp {X : Cx} {e : Expr} {t t' : TE} (h : PE X e t) (k : ∀ σ H Q, t' σ H Q → t σ H Q) : PE X e t' := ⟨fun pins s σ H Q I w => h.run pins s σ H Q I (k σ H Q w)⟩
theorem _root_.L2.PT.imp {X : Cx} {e : Expr} {t t' : TT} (h : PT X e t) (k : ∀ σ H Q, t' σ H Q → t σ H Q) : PT X e t' := ⟨fun pins s σ H Q I w => h.run pins s σ H Q I (k σ H Q w)⟩
theorem _root_.L2.PW.imp {X : Cx} {e : Expr} {t t' : TT} (h : PW X e t) (k : ∀ σ H Q, t' σ H Q → t σ H Q) : PW X e t' := ⟨fun wh pins s σ H Q I w => h.run wh pins s σ H Q I (k σ H Q w)⟩
theorem _root_.L2.PA.imp {X : Cx} {es : List Expr} {t t' : TA} (h : PA X es t) (k : ∀ σ H Q, t' σ H Q → t σ H Q) : PA X es t' := ⟨fun pos pins s σ H Q I w => h.run pos pins s σ H Q I (k σ H Q w)⟩
theorem _root_.L2.PO.imp {X : Cx} {e : Option Expr} {t t' : TO} (h : PO X e t) (k : ∀ σ H Q, t' σ H Q → t σ H Q) : PO X e t' := ⟨fun pins s σ H Q I w => h.run pins s σ H Q I (k σ H Q w)⟩
theorem _root_.L2.PI.imp {X : Cx} {tg e : Expr} {t t' : TI} (h : PI X tg e t) (k : ∀ σ H Q, t' σ H Q → t σ H Q) : PI X tg e t' := ⟨fun pins s σ H Q I w => h.run pins s σ H Q I (k σ H Q w)⟩
theorem _root_.L2.PS.imp {X : Cx} {e : Stmt} {t t' : TS} (h : PS X e t) (k : ∀ D σ H, t' D σ H → t D σ H) : PS X e t' := ⟨fun pins s σ H D I w => h.run pins s σ H D I (k D σ H w)⟩
theorem _root_.L2.PSs.imp {X : Cx} {e : List Stmt} {t t' : TS} (h : PSs X e t) (k : ∀ D σ H, t' D σ H → t D σ H) : PSs X e t' := ⟨fun pins s σ H D I w => h.run pins s σ H D I (k D σ H w)⟩

section
variable {K : PySem.W.Frag} {EW : EWish} {c : Cfg} {h : Hh} {Q : VK}
/-- nothing changed: the answer is data that is there -/
theorem PostE.here {r : R} {v : V} (wf : WF K c h) (p : PostE K EW c Q (.ok r h)) (hr : RelR K c r v) (hf : Fr c.H r v := by exact True.intro) : Q v c.H := p c v (Le.refl c) wf ⟨hr, hf⟩
theorem PostE.newL {l : List D} {vs : List V} {p : Addr} (wf : WF K c h) (hp : c.H p = none) (hr : RelDs K c l vs) (q : PostE K EW c Q (.ok (.new l) h)) : Q (.ref p) (upd c.H p (.lst vs)) := by
  have le := put_le wf hp (.lst vs)
  refine q (c.put p (.lst vs)) (.ref p) le (put_wf wf hp _) ⟨⟨p, vs, rfl, upd_same, fun z => ?_, fun k hk z => ?_, RelDs.mono le.toSta _ _ hr⟩, hp⟩
  · obtain ⟨us, e⟩ := wf.fl p z
    rw [hp] at e; cases e
  · exact wf.some hk (by rw [← hp, ← z]; rfl)
theorem PostE.newT {l : List D} {vs : List V} {p : Addr} (wf : WF K c h) (hp : c.H p = none) (hr : RelDs K c l vs) (q : PostE K EW c Q (.ok (.dat (.tup l)) h)) : Q (.ref p) (upd c.H p (.tup vs)) := by
  have le := put_le wf hp (.tup vs)
  refine q (c.put p (.tup vs)) (.ref p) le (put_wf wf hp _) ⟨?_, True.intro⟩
  show RelD K _ (.tup l) _
  unfold RelD
  exact ⟨p, vs, rfl, .inl (.inl upd_same), RelDs.mono le.toSta _ _ hr⟩
/-- an answer is frozen where it is kept -/
theorem freeze_ans {c0 : Cfg} {r : R} {d : D} {v : V} (le : Le c0 c) (wf : WF K c h) (hr : RE K c0 c r v) (e : r.fz = some d) : ∃ c', c'.H = c.H ∧ Le c0 c' ∧ Sta c c' ∧ WF K c' h ∧ RelD K c' d v := by
  obtain ⟨h1, h2⟩ := hr
  cases r with
  | dat d' => cases e; exact ⟨c, rfl, le, Sta.refl c, wf, h1⟩
  | bor l => cases e
  | new l =>
    cases e
    obtain ⟨a, vs, rfl, g1, g2, g3, g4⟩ := h1
    refine ⟨c.freeze a, rfl, freeze_le le h2, freeze_sta, freeze_wf wf g1 g3, ?_⟩
    unfold RelD
    exact ⟨a, vs, rfl, .inr rfl, g1, RelDs.mono freeze_sta _ _ g4⟩
/-- seen as a list -/
theorem lv_rel {r : R} {l : List D} {v : V} (wf : WF K c h) (hr : RelR K c r v) (e : lv h r = some l) : ∃ a vs, v = .ref a ∧ c.H a = some (.lst vs) ∧ RelDs K c l vs := by
  unfold lv at e
  split at e
  · cases e
    have hr' : RelD K c (.lst l) v := hr
    unfold RelD at hr'
    obtain ⟨a, vs, e1, _, e2, e3⟩ := hr'
    exact ⟨a, vs, e1, e2, e3⟩
  · cases e
    obtain ⟨a, vs, e1, e2, _, _, e3⟩ := hr
    exact ⟨a, vs, e1, e2, e3⟩
  · cases e
    obtain ⟨a, vs, e1, e2, _, _, e3⟩ := hr
    exact ⟨a, vs, e1, e2, e3⟩
  · rename_i n
    split at e
    · rename_i l' hl
      cases e
      have hr' : RelD K c (.ref n) v := hr
      unfold RelD at hr'
      obtain ⟨vs, e1, e2⟩ := wf.obj n _ hl
      exact ⟨_, vs, hr'.2, e1, e2⟩
    · cases e
  · cases e
/-- seen as a list or a tuple -/
theorem sv_rel {r : R} {l : List D} {v : V} (wf : WF K c h) (hr : RelR K c r v) (e : sv h r = some l) : ∃ a vs, v = .ref a ∧ (SqL K c.H a vs ∨ SqT K c.H a vs) ∧ RelDs K c l vs := by
  unfold sv at e
  split at e
  · cases e
    have hr' : RelD K c (.tup l) v := hr
    unfold RelD at hr'
    obtain ⟨a, vs, e1, e2, e3⟩ := hr'
    exact ⟨a, vs, e1, .inr e2, e3⟩
  · cases e
    have hr' : RelD K c (.arg l) v := hr
    unfold RelD at hr'
    obtain ⟨a, vs, e1, e2, e3⟩ := hr'
    exact ⟨a, vs, e1, .inl e2.seq, e3⟩
  · obtain ⟨a, vs, e1, e2, e3⟩ := lv_rel wf hr e
    exact ⟨a, vs, e1, .inl (.inl (.inl e2)), e3⟩
end

section
variable {X : Cx} {EW : EWish} {C : Calls'} {G : Str → Option D}
/-! ### leaves -/
theorem sim_var (i : Nat) {x : Str} {pos : Pos} (hN : X.N[i]? = some x := by rfl) (hv : Vis X.env.scope x := by first | exact Or.inl rfl | exact Or.inr (Or.inl rfl) | exact Or.inr (Or.inr rfl)) (hd : (x == ("__debug__" : Str)) = false := by decide)
    (hcd : (x == ("__classdict__" : Str)) = false := by decide) : PE X (.Name x pos) (tE X.K EW C G (.var i)) := by
  refine (pe_var hN hv hd hcd).imp fun σ H Q w => ?_
  obtain ⟨He, c, h, env, rfl, wf, re, p⟩ := w
  unfold evalE at p
  split at p
  · rename_i d e
    obtain ⟨v, e1, r⟩ := re.val e
    exact ⟨v, e1, PostE.here wf p r⟩
  · rename_i l e
    obtain ⟨a, e1, r, _⟩ := re.own e
    exact ⟨_, e1, PostE.here wf p r⟩
  · exact False.elim p
theorem con_red {d : D} {v : V} (r : ∀ c, RelD X.K c d v) : ∀ σ H Q, tE X.K EW C G (.con d) σ H Q → tC v σ H Q := fun σ H Q w => by
  obtain ⟨He, c, h, env, rfl, wf, re, p⟩ := w
  unfold evalE at p
  exact PostE.here wf p (r c)
theorem sim_int {i j pos} : PE X (.Constant (.int i) j pos) (tE X.K EW C G (.con (.int i))) := pe_int.imp (con_red fun _ => by unfold RelD; rfl)
theorem sim_bl {i j pos} : PE X (.Constant (.bool i) j pos) (tE X.K EW C G (.con (.bl i))) := pe_bl.imp (con_red fun _ => by unfold RelD; rfl)
theorem sim_str {i j pos} : PE X (.Constant (.str i) j pos) (tE X.K EW C G (.con (.str i))) := pe_str.imp (con_red fun _ => by unfold RelD; rfl)
theorem sim_non {j pos} : PE X (.Constant .none j pos) (tE X.K EW C G (.con .non)) := pe_non.imp (con_red fun _ => by unfold RelD; rfl)
theorem sim_glo (gl : Glob X.K X.mg G) {x : Str} {pos : Pos} (hg : Gl X x := by rfl) (hd : (x == ("__debug__" : Str)) = false := by decide) : PE X (.Name x pos) (tE X.K EW C G (.glo x)) := by
  cases e : G x with
  | none =>
    refine ⟨fun pins s σ H Q I w => ?_⟩
    obtain ⟨He, c, h, env, rfl, wf, re, p⟩ := w
    unfold evalE at p
    rw [e] at p
    exact False.elim p
  | some d =>
    obtain ⟨v, u, hm, r, rr⟩ := gl x d e
    refine (pe_glob hg hm r hd).imp fun σ H Q w => ?_
    obtain ⟨He, c, h, env, rfl, wf, re, p⟩ := w
    unfold evalE at p
    rw [e] at p
    exact PostE.here wf p (rr c)
/-! ### two parts -/
theorem two_red {a b : E} {f : Hh → R → R → Option R} {e : E} (he : ∀ env h, evalE C G e env h = (evalE C G a env h).bind fun x h1 => (evalE C G b env h1).bind fun y h2 => Res.of h2 (f h2 x y)) {r : R2}
    (prim : ∀ (c : Cfg) (h : Hh) (x y : R) (u v : V) (Q : VK), WF X.K c h → RelR X.K c x u → RelR X.K c y v → PostE X.K EW c Q (Res.of h (f h x y)) → r u v c.H Q) :
    ∀ σ H Q, tE X.K EW C G e σ H Q → tOp r (tE X.K EW C G a) (tE X.K EW C G b) σ H Q := fun σ H Q w => by
  obtain ⟨He, c, h, env, rfl, wf, re, p⟩ := w
  rw [he] at p
  refine ⟨He, c, h, env, rfl, wf, re, p.bind fun x h1 c1 u le1 wf1 r1 p1 => ?_⟩
  have p1 := PostE.lift le1 p1
  refine ⟨He, c1, h1, env, rfl, wf1, re.mono le1, p1.bind fun y h2 c2 v le2 wf2 r2 p2 => ?_⟩
  exact prim c2 h2 x y u v Q wf2 (RelR.mono le2 r1.1) r2.1 (PostE.lift le2 p2)
theorem one_red {a : E} {f : Hh → R → Option R} {e : E} (he : ∀ env h, evalE C G e env h = (evalE C G a env h).bind fun x h1 => Res.of h1 (f h1 x)) {r : V → Hp → VK → Prop}
    (prim : ∀ (c : Cfg) (h : Hh) (x : R) (u : V) (Q : VK), WF X.K c h → RelR X.K c x u → PostE X.K EW c Q (Res.of h (f h x)) → r u c.H Q) :
    ∀ σ H Q, tE X.K EW C G e σ H Q → tUn r (tE X.K EW C G a) σ H Q := fun σ H Q w => by
  obtain ⟨He, c, h, env, rfl, wf, re, p⟩ := w
  rw [he] at p
  refine ⟨He, c, h, env, rfl, wf, re, p.bind fun x h1 c1 u le1 wf1 r1 p1 => ?_⟩
  exact prim c1 h1 x u Q wf1 r1.1 (PostE.lift le1 p1)
/-! ### + - * // % ** -/
def rAddM (K : PySem.W.Frag) : R2 := fun x y H Q => rI0 (fun i j => .int (i + j)) x y H Q ∨ ((∃ i j, x = .str i ∧ y = .str j ∧ i.length + j.length ≤ sizeLine ∧ Q (.str (i ++ j)) H) ∨ (rCatA K x y H Q ∨ rCat x y H Q))
theorem op_addM : OpR X (binaryOp .Add) (rAddM X.K) := op_add.or (op_add_str.or (op_catA.or op_cat))
theorem prim_add (c : Cfg) (h : Hh) (x y : R) (u v : V) (Q : VK) (wf : WF X.K c h) (r1 : RelR X.K c x u) (r2 : RelR X.K c y v) (p : PostE X.K EW c Q (Res.of h (addF h x y))) : rAddM X.K u v c.H Q := by
  unfold addF at p
  split at p
  · rename_i i j
    refine .inl ⟨i, j, r1, r2, PostE.here wf p ?_⟩
    show RelD X.K c (.int (i + j)) _
    unfold RelD; rfl
  · rename_i a b
    split at p
    · rename_i hz
      refine .inr (.inl ⟨a, b, r1, r2, hz, PostE.here wf p ?_⟩)
      show RelD X.K c (.str (a ++ b)) _
      unfold RelD; rfl
    · exact False.elim p
  · rename_i a b
    split at p
    · rename_i hz
      have q1 : RelD X.K c (.tup a) u := r1
      have q2 : RelD X.K c (.tup b) v := r2
      unfold RelD at q1 q2
      obtain ⟨p1, xs, rfl, s1, t1⟩ := q1
      obtain ⟨p2, ys, rfl, s2, t2⟩ := q2
      have l1 := t1.length
      have l2 := t2.length
      refine .inr (.inr (.inl ⟨p1, p2, xs, ys, rfl, rfl, s1, s2, by omega, fun e => ?_, fun _ e => ?_, fun _ _ p hp => ?_⟩))
      · subst e
        have : a = [] := List.eq_nil_of_length_eq_zero (by simpa using l1)
        subst this
        exact PostE.here wf p r2
      · subst e
        have : b = [] := List.eq_nil_of_length_eq_zero (by simpa using l2)
        subst this
        rw [List.append_nil] at p
        exact PostE.here wf p r1
      · exact PostE.newT wf hp (t1.append t2) (by assumption)
    · exact False.elim p
  · split at p
    · rename_i a b e1 e2
      split at p
      · rename_i hz
        obtain ⟨p1, xs, rfl, s1, t1⟩ := lv_rel wf r1 e1
        obtain ⟨p2, ys, rfl, s2, t2⟩ := lv_rel wf r2 e2
        have l1 := t1.length
        have l2 := t2.length
        exact .inr (.inr (.inr ⟨p1, p2, xs, ys, rfl, rfl, s1, s2, by omega, fun p hp => PostE.newL wf hp (t1.append t2) (by assumption)⟩))
      · exact False.elim p
    · exact False.elim p
theorem sim_add {a b : Expr} {ma mb : E} {pos : Pos} (ha : PE X a (tE X.K EW C G ma)) (hb : PE X b (tE X.K EW C G mb)) : PE X (.BinOp a .Add b pos) (tE X.K EW C G (.bin .add ma mb)) :=
  (pe_op op_addM ha hb).imp (two_red (f := fun h => binF h .add) (fun _ _ => by conv => lhs; unfold evalE) prim_add)
theorem twoI_ {f : Int → Int → Option D} {c : Cfg} {h : Hh} {x y : R} {u v : V} {Q : VK} (wf : WF X.K c h) (r1 : RelR X.K c x u) (r2 : RelR X.K c y v) (p : PostE X.K EW c Q (Res.of h (twoI f x y))) :
    ∃ i j d, u = .int i ∧ v = .int j ∧ f i j = some d ∧ PostE X.K EW c Q (.ok (.dat d) h) := by
  unfold twoI at p
  split at p
  · rename_i i j
    cases e : f i j with
    | none => rw [e] at p; exact False.elim p
    | some d => rw [e] at p; exact ⟨i, j, d, r1, r2, e, p⟩
  · exact False.elim p
theorem relInt {c : Cfg} {i : Int} : RelR X.K c (.dat (.int i)) (.int i) := by
  show RelD X.K c (.int i) _
  unfold RelD; rfl
theorem relBl {c : Cfg} {i : Bool} : RelR X.K c (.dat (.bl i)) (.bl i) := by
  show RelD X.K c (.bl i) _
  unfold RelD; rfl
theorem relStr {c : Cfg} {i : Str} : RelR X.K c (.dat (.str i)) (.str i) := by
  show RelD X.K c (.str i) _
  unfold RelD; rfl
theorem sim_sub {a b : Expr} {ma mb : E} {pos : Pos} (ha : PE X a (tE X.K EW C G ma)) (hb : PE X b (tE X.K EW C G mb)) : PE X (.BinOp a .Sub b pos) (tE X.K EW C G (.bin .sub ma mb)) :=
  (pe_op op_sub ha hb).imp (two_red (f := fun h => binF h .sub) (fun _ _ => by conv => lhs; unfold evalE) fun c h x y u v Q wf r1 r2 p => by
    obtain ⟨i, j, d, rfl, rfl, e, p⟩ := twoI_ wf r1 r2 p
    cases e
    exact ⟨i, j, rfl, rfl, PostE.here wf p relInt⟩)
theorem RelDs.rep {c : Cfg} {l : List D} {vs : List V} (h : RelDs X.K c l vs) : ∀ n : Nat, RelDs X.K c (List.replicate n l).flatten (List.replicate n vs).flatten
  | 0 => by simpa using RelDs.nil
  | n + 1 => by
    rw [List.replicate_succ, List.replicate_succ, List.flatten_cons, List.flatten_cons]
    exact h.append (RelDs.rep h n)
def rMulM (K : PySem.W.Frag) : R2 := fun x y H Q => rI CMul (fun i j => .int (i * j)) x y H Q ∨ (rMulS x y H Q ∨ (rRepA K x y H Q ∨ rRep x y H Q))
theorem op_mulM : OpR X (binaryOp .Mult) (rMulM X.K) := op_mul.or (op_mulS.or (op_repA.or op_rep))
theorem prim_mul (c : Cfg) (h : Hh) (x y : R) (u v : V) (Q : VK) (wf : WF X.K c h) (r1 : RelR X.K c x u) (r2 : RelR X.K c y v) (p : PostE X.K EW c Q (Res.of h (mulF h x y))) : rMulM X.K u v c.H Q := by
  unfold mulF at p
  split at p
  · rename_i i j
    cases e : mulI i j with
    | none => rw [e] at p; exact False.elim p
    | some d =>
      rw [e] at p
      unfold mulI near at e
      split at e
      · rename_i hz
        cases e
        simp only [Bool.or_eq_true, Bool.and_eq_true, decide_eq_true_eq] at hz
        exact .inl ⟨i, j, r1, r2, hz, PostE.here wf p relInt⟩
      · cases e
  · rename_i a k
    split at p
    · rename_i hz
      exact .inr (.inl ⟨a, k, r1, r2, hz.1, hz.2.1, hz.2.2, PostE.here wf p relStr⟩)
    · exact False.elim p
  · rename_i a k
    split at p
    · rename_i hz
      have q1 : RelD X.K c (.tup a) u := r1
      unfold RelD at q1
      obtain ⟨p1, xs, rfl, s1, t1⟩ := q1
      have l1 := t1.length
      refine .inr (.inr (.inl ⟨p1, k, xs, rfl, r2, s1, hz.1, hz.2.1, by rw [← l1]; exact hz.2.2, fun e => ?_, fun _ q hq => PostE.newT wf hq (RelDs.rep t1 _) p⟩))
      have e2 : (List.replicate k.toNat a).flatten = a := by
        rcases e with e | e
        · subst e
          have : a = [] := List.eq_nil_of_length_eq_zero (by simpa using l1)
          subst this
          simp
        · subst e
          simp
      rw [e2] at p
      exact PostE.here wf p r1
    · exact False.elim p
  · rename_i k _ _ _
    split at p
    · rename_i l e
      split at p
      · rename_i hz
        obtain ⟨a, vs, rfl, g1, g2⟩ := lv_rel wf r1 e
        exact .inr (.inr (.inr ⟨a, k, vs, rfl, r2, g1, hz.1, hz.2.1, by rw [← RelDs.length g2]; exact hz.2.2, fun q hq => PostE.newL wf hq (RelDs.rep g2 _) p⟩))
      · exact False.elim p
    · exact False.elim p
  · exact False.elim p
theorem sim_mul {a b : Expr} {ma mb : E} {pos : Pos} (ha : PE X a (tE X.K EW C G ma)) (hb : PE X b (tE X.K EW C G mb)) : PE X (.BinOp a .Mult b pos) (tE X.K EW C G (.bin .mul ma mb)) :=
  (pe_op op_mulM ha hb).imp (two_red (f := fun h => binF h .mul) (fun _ _ => by conv => lhs; unfold evalE) prim_mul)
theorem sim_fdiv {a b : Expr} {ma mb : E} {pos : Pos} (ha : PE X a (tE X.K EW C G ma)) (hb : PE X b (tE X.K EW C G mb)) : PE X (.BinOp a .FloorDiv b pos) (tE X.K EW C G (.bin .fdiv ma mb)) :=
  (pe_op op_fdivN ha hb).imp (two_red (f := fun h => binF h .fdiv) (fun _ _ => by conv => lhs; unfold evalE) fun c h x y u v Q wf r1 r2 p => by
    obtain ⟨i, j, d, rfl, rfl, e, p⟩ := twoI_ wf r1 r2 p
    unfold fdivI at e
    split at e
    · rename_i hz
      cases e
      exact ⟨i, j, rfl, rfl, hz, PostE.here wf p relInt⟩
    · cases e)
theorem sim_mod {a b : Expr} {ma mb : E} {pos : Pos} (ha : PE X a (tE X.K EW C G ma)) (hb : PE X b (tE X.K EW C G mb)) : PE X (.BinOp a .Mod b pos) (tE X.K EW C G (.bin .mod ma mb)) :=
  (pe_op op_modN ha hb).imp (two_red (f := fun h => binF h .mod) (fun _ _ => by conv => lhs; unfold evalE) fun c h x y u v Q wf r1 r2 p => by
    obtain ⟨i, j, d, rfl, rfl, e, p⟩ := twoI_ wf r1 r2 p
    unfold modI at e
    split at e
    · rename_i hz
      cases e
      exact ⟨i, j, rfl, rfl, hz, PostE.here wf p relInt⟩
    · cases e)
theorem sim_pow {a b : Expr} {ma mb : E} {pos : Pos} (ha : PE X a (tE X.K EW C G ma)) (hb : PE X b (tE X.K EW C G mb)) : PE X (.BinOp a .Pow b pos) (tE X.K EW C G (.bin .pow ma mb)) :=
  (pe_op op_pow ha hb).imp (two_red (f := fun h => binF h .pow) (fun _ _ => by conv => lhs; unfold evalE) fun c h x y u v Q wf r1 r2 p => by
    obtain ⟨i, j, d, rfl, rfl, e, p⟩ := twoI_ wf r1 r2 p
    unfold powI at e
    split at e
    · rename_i hz
      cases e
      exact ⟨i, j, rfl, rfl, hz, PostE.here wf p relInt⟩
    · cases e)
theorem sim_neg {a : Expr} {ma : E} {pos : Pos} (ha : PE X a (tE X.K EW C G ma)) : PE X (.UnaryOp .USub a pos) (tE X.K EW C G (.neg ma)) :=
  (pe_un un_neg ha).imp (one_red (f := fun _ => negF) (fun env h => by conv => lhs; unfold evalE) fun c h x u Q wf r1 p => by
    unfold negF at p
    split at p
    · rename_i i
      exact ⟨i, r1, PostE.here wf p relInt⟩
    · exact False.elim p)
/-! ### comparisons -/
theorem pyAll_dp {K : PySem.W.Frag} {c : Cfg} : True := True.intro
mutual
theorem dp_of {K : PySem.W.Frag} {c : Cfg} : ∀ (d : D) (v : V) (p : PyData), RelD K c d v → d.py = some p → Dp K c.H v p
  | .non, v, p, h, e => by unfold RelD at h; unfold D.py at e; cases e; subst h; exact .non
  | .bl b, v, p, h, e => by unfold RelD at h; unfold D.py at e; cases e; subst h; exact .bl b
  | .int b, v, p, h, e => by unfold RelD at h; unfold D.py at e; cases e; subst h; exact .int b
  | .str b, v, p, h, e => by unfold RelD at h; unfold D.py at e; cases e; subst h; exact .str b
  | .tup l, v, p, h, e => by
    unfold RelD at h; unfold D.py at e
    obtain ⟨a, vs, rfl, h1, h2⟩ := h
    cases q : pyAll l with
    | none => rw [q] at e; cases e
    | some ps => rw [q] at e; cases e; exact .tup h1 (dps_of l vs ps h2 q)
  | .lst l, v, p, h, e => by
    unfold RelD at h; unfold D.py at e
    obtain ⟨a, vs, rfl, _, h1, h2⟩ := h
    cases q : pyAll l with
    | none => rw [q] at e; cases e
    | some ps => rw [q] at e; cases e; exact .lst (.inl (.inl h1)) (dps_of l vs ps h2 q)
  | .arg l, v, p, h, e => by
    unfold RelD at h; unfold D.py at e
    obtain ⟨a, vs, rfl, h1, h2⟩ := h
    cases q : pyAll l with
    | none => rw [q] at e; cases e
    | some ps => rw [q] at e; cases e; exact .lst h1.seq (dps_of l vs ps h2 q)
  | .ref _, _, _, _, e => by unfold D.py at e; cases e
  | .sp _ _ _, _, _, _, e => by unfold D.py at e; cases e
theorem dps_of {K : PySem.W.Frag} {c : Cfg} : ∀ (l : List D) (vs : List V) (ps : List PyData), RelDs K c l vs → pyAll l = some ps → DpAll K c.H vs ps
  | [], vs, ps, h, e => by unfold RelDs at h; unfold pyAll at e; cases e; subst h; exact .nil
  | d :: l, vs, ps, h, e => by
    unfold RelDs at h; unfold pyAll at e
    obtain ⟨v, r, rfl, h1, h2⟩ := h
    cases q1 : d.py with
    | none => rw [q1] at e; cases e
    | some x =>
      cases q2 : pyAll l with
      | none => rw [q1, q2] at e; cases e
      | some xs => rw [q1, q2] at e; cases e; exact .cons (dp_of d v x h1 q1) (dps_of l r xs h2 q2)
end
theorem dpR_of {K : PySem.W.Frag} {c : Cfg} {h : Hh} (wf : WF K c h) {r : R} {v : V} {p : PyData} (hr : RelR K c r v) (e : r.pyH h = some p) : Dp K c.H v p := by
  have own : ∀ l : List D, Mi.OwnL K c l v → (pyAll l).map PyData.list = some p → Dp K c.H v p := fun l ⟨a, vs, e1, e2, _, _, e3⟩ q => by
    subst e1
    cases q1 : pyAll l with
    | none => rw [q1] at q; cases q
    | some ps => rw [q1] at q; cases q; exact .lst (.inl (.inl e2)) (dps_of l vs ps e3 q1)
  unfold R.pyH at e
  split at e
  · rename_i n
    split at e
    · rename_i l hl
      have hr' : RelD K c (.ref n) v := hr
      unfold RelD at hr'
      obtain ⟨vs, e1, e2⟩ := wf.obj n _ hl
      cases q1 : pyAll l with
      | none => rw [q1] at e; cases e
      | some ps => rw [q1] at e; cases e; rw [hr'.2]; exact .lst (.inl (.inl e1)) (dps_of l vs ps e2 q1)
    · cases e
  · unfold R.py at e
    split at e
    · exact dp_of _ v p hr e
    · exact own _ hr e
    · exact own _ hr e
/-- what a comparison of two answers asks of the layer's rule -/
def CmpPrim (X : Cx) (EW : EWish) (op : Cop) (r : R2) : Prop := ∀ (c : Cfg) (h : Hh) (x y : R) (u v : V) (Q : VK), WF X.K c h → RelR X.K c x u → RelR X.K c y v → ∀ b, cmpF h op x y = some b → (∀ c', c' = c → Q (.bl b) c'.H) → r u v c.H Q
theorem cmp_two {op : Cop} {r : R2} (pr : CmpPrim X EW op r) {a b : E} : ∀ σ H Q, tE X.K EW C G (.cmp op a b) σ H Q → tOp r (tE X.K EW C G a) (tE X.K EW C G b) σ H Q :=
  two_red (f := fun h x y => (cmpF h op x y).map fun b => .dat (.bl b)) (fun _ _ => by conv => lhs; unfold evalE) fun c h x y u v Q wf r1 r2 p => by
    cases e : cmpF h op x y with
    | none => rw [e] at p; exact False.elim p
    | some b =>
      rw [e] at p
      exact pr c h x y u v Q wf r1 r2 b e fun c' ec => by subst ec; exact PostE.here wf p relBl
theorem cp_eq (hu : X.A.units + 64 < cLine) : CmpPrim X EW .eq (fun x y H Q => rEq x y H Q ∨ rEqD X.K x y H Q) := fun c h x y u v Q wf r1 r2 b e q => by
  have e : eqF h x y = some b := e
  unfold eqF at e
  split at e
  · rename_i a b _
    cases e
    have r1 : RelD X.K c (.str a) u := r1
    have r2 : RelD X.K c (.str b) v := r2
    unfold RelD at r1 r2
    subst r1
    subst r2
    have := q c rfl
    exact .inl ⟨rfl, by simpa using this⟩
  · split at e
    · rename_i p1 p2 e1 e2
      split at e
      · rename_i hs
        cases e
        simp only [Bool.and_eq_true] at hs
        exact .inr ⟨p1, p2, dpR_of wf r1 e1, dpR_of wf r2 e2, hs.1, hs.2, q c rfl⟩
      · cases e
    · cases e
theorem cp_ne (hu : X.A.units + 64 < cLine) : CmpPrim X EW .ne (fun x y H Q => rNe x y H Q ∨ rNeD X.K x y H Q) := fun c h x y u v Q wf r1 r2 b e q => by
  have e : (eqF h x y).map (!·) = some b := e
  unfold eqF at e
  split at e
  · rename_i a b _
    cases e
    have r1 : RelD X.K c (.str a) u := r1
    have r2 : RelD X.K c (.str b) v := r2
    unfold RelD at r1 r2
    subst r1
    subst r2
    have := q c rfl
    exact .inl ⟨rfl, by simpa using this⟩
  · split at e
    · rename_i p1 p2 e1 e2
      split at e
      · rename_i hs
        cases e
        simp only [Bool.and_eq_true] at hs
        exact .inr ⟨p1, p2, dpR_of wf r1 e1, dpR_of wf r2 e2, hs.1, hs.2, q c rfl⟩
      · cases e
    · cases e
theorem cp_ord {op : Cop} {f : Int → Int → Bool} (hop : ∀ h x y, cmpF h op x y = ordF f x y) : CmpPrim X EW op (rI0 fun i j => .bl (f i j)) := fun c h x y u v Q wf r1 r2 b e q => by
  rw [hop] at e
  unfold ordF at e
  split at e
  · rename_i i j
    cases e
    exact ⟨i, j, r1, r2, q c rfl⟩
  · cases e
theorem cp_lt : CmpPrim X EW .lt (rI0 fun i j => .bl (decide (i < j))) := cp_ord fun _ _ _ => rfl
theorem cp_le : CmpPrim X EW .le (rI0 fun i j => .bl (decide (i ≤ j))) := cp_ord fun _ _ _ => rfl
theorem cp_gt : CmpPrim X EW .gt (rI0 fun i j => .bl (decide (j < i))) := cp_ord fun _ _ _ => rfl
theorem cp_ge : CmpPrim X EW .ge (rI0 fun i j => .bl (decide (j ≤ i))) := cp_ord fun _ _ _ => rfl
theorem isN_ {c : Cfg} {x y : R} {u v : V} {b : Bool} (r1 : RelR X.K c x u) (r2 : RelR X.K c y v) (e : isN x y = some b) : v = .non ∧ b = decide (u = .non) := by
  unfold isN at e
  split at e
  · cases e
    have h1 : RelD X.K c .non u := r1
    have h2 : RelD X.K c .non v := r2
    unfold RelD at h1 h2
    exact ⟨h2, by rw [h1]; rfl⟩
  · rename_i hx
    cases e
    have h2 : RelD X.K c .non v := r2
    unfold RelD at h2
    refine ⟨h2, (decide_eq_false fun z => ?_).symm⟩
    subst z
    cases x with
    | new l => obtain ⟨a, vs, e1, _⟩ := r1; cases e1
    | bor l => obtain ⟨a, vs, e1, _⟩ := r1; cases e1
    | dat d =>
      have h1 : RelD X.K c d .non := r1
      cases d with
      | non => exact hx rfl
      | bl b => unfold RelD at h1; cases h1
      | int b => unfold RelD at h1; cases h1
      | str b => unfold RelD at h1; cases h1
      | tup l => unfold RelD at h1; obtain ⟨a, vs, e1, _⟩ := h1; cases e1
      | lst l => unfold RelD at h1; obtain ⟨a, vs, e1, _⟩ := h1; cases e1
      | arg l => unfold RelD at h1; obtain ⟨a, vs, e1, _⟩ := h1; cases e1
      | ref n => unfold RelD at h1; cases h1.2
      | sp b x l =>
        unfold RelD at h1
        obtain ⟨C, _, h1⟩ := h1
        cases b with
        | true => rw [if_pos rfl] at h1; obtain ⟨a, d, e1, _⟩ := h1; cases e1
        | false => rw [if_neg (by decide)] at h1; cases h1.1
  · cases e
theorem cp_is : CmpPrim X EW .is (fun x y H Q => y = .non ∧ Q (.bl (decide (x = .non))) H) := fun c h x y u v Q wf r1 r2 b e q => by
  obtain ⟨h1, h2⟩ := isN_ r1 r2 e
  exact ⟨h1, by rw [← h2]; exact q c rfl⟩
theorem cp_isnot : CmpPrim X EW .isnot (fun x y H Q => y = .non ∧ Q (.bl (!decide (x = .non))) H) := fun c h x y u v Q wf r1 r2 b e q => by
  have e : (isN x y).map (!·) = some b := e
  cases e1 : isN x y with
  | none => rw [e1] at e; cases e
  | some b' =>
    rw [e1] at e
    cases e
    obtain ⟨h1, h2⟩ := isN_ r1 r2 e1
    exact ⟨h1, by rw [← h2]; exact q c rfl⟩
theorem flat_rel {c : Cfg} {d : D} {v w : V} (h : RelD X.K c d v) (e : d.flat = some w) : v = w ∧ flatV w = true := by
  cases d with
  | non => unfold RelD at h; unfold D.flat at e; cases e; exact ⟨h, rfl⟩
  | bl b => unfold RelD at h; unfold D.flat at e; cases e; exact ⟨h, rfl⟩
  | int b => unfold RelD at h; unfold D.flat at e; cases e; exact ⟨h, rfl⟩
  | str b => unfold RelD at h; unfold D.flat at e; cases e; exact ⟨h, rfl⟩
  | _ => unfold D.flat at e; cases e
theorem flats_rel {c : Cfg} : ∀ {l : List D} {vs ws : List V}, RelDs X.K c l vs → flats l = some ws → vs = ws ∧ ws.all flatV = true
  | [], vs, ws, h, e => by unfold RelDs at h; unfold flats at e; cases e; exact ⟨h, rfl⟩
  | d :: l, vs, ws, h, e => by
    unfold RelDs at h; unfold flats at e
    obtain ⟨v, r, rfl, h1, h2⟩ := h
    cases q1 : d.flat with
    | none => rw [q1] at e; cases e
    | some x =>
      cases q2 : flats l with
      | none => rw [q1, q2] at e; cases e
      | some xs =>
        rw [q1, q2] at e; cases e
        obtain ⟨a1, a2⟩ := flat_rel h1 q1
        obtain ⟨b1, b2⟩ := flats_rel h2 q2
        exact ⟨by rw [a1, b1], by simp [a2, b2]⟩
def rInM (K : PySem.W.Frag) : R2 := fun x y H Q => (∃ (c : Nat) (z : Str), x = .str ⟨#[c]⟩ ∧ y = .str z ∧ Q (.bl (decide (c ∈ z.cps.toList))) H) ∨ rIn K false x y H Q
def rNotInM (K : PySem.W.Frag) : R2 := fun x y H Q => (∃ (c : Nat) (z : Str), x = .str ⟨#[c]⟩ ∧ y = .str z ∧ Q (.bl (!decide (c ∈ z.cps.toList))) H) ∨ rIn K true x y H Q
theorem str_one {a : Str} {c : Nat} (h : a.cps.toList = [c]) : a = ⟨#[c]⟩ := by
  obtain ⟨⟨l⟩⟩ := a
  simp at h
  subst h
  rfl
theorem in_ {c : Cfg} {h : Hh} {x y : R} {u v : V} {b : Bool} (wf : WF X.K c h) (r1 : RelR X.K c x u) (r2 : RelR X.K c y v) (e : inF h x y = some b) :
    (∃ (n : Nat) (z : Str), u = .str ⟨#[n]⟩ ∧ v = .str z ∧ b = decide (n ∈ z.cps.toList)) ∨ ∃ p xs, v = .ref p ∧ (SqL X.K c.H p xs ∨ SqT X.K c.H p xs) ∧ flatV u = true ∧ xs.all flatV = true ∧ b = inV u xs := by
  unfold inF at e
  split at e
  · rename_i a z
    split at e
    · rename_i n hn
      cases e
      have h1 : RelD X.K c (.str a) u := r1
      have h2 : RelD X.K c (.str z) v := r2
      unfold RelD at h1 h2
      exact .inl ⟨n, z, by rw [h1, str_one hn], h2, rfl⟩
    · cases e
  · rename_i d y' _
    split at e
    · rename_i w ws e1 e2
      cases e
      obtain ⟨a1, a2⟩ := flat_rel r1 e1
      obtain ⟨l, e3, e4⟩ := Option.bind_eq_some_iff.mp e2
      obtain ⟨p, xs, g1, g2, g3⟩ := sv_rel wf r2 e3
      obtain ⟨b1, b2⟩ := flats_rel g3 e4
      exact .inr ⟨p, xs, g1, g2, by rw [a1]; exact a2, by rw [b1]; exact b2, by rw [a1, b1]⟩
    · cases e
  · cases e
theorem op_inM : OpR X (compareOp .In) (rInM X.K) := op_in_sign.or op_in_seq
theorem op_notInM : OpR X (compareOp .NotIn) (rNotInM X.K) := op_notIn_sign.or op_notIn_seq
theorem cp_in : CmpPrim X EW .isin (rInM X.K) := fun c h x y u v Q wf r1 r2 b e q => by
  rcases in_ wf r1 r2 e with ⟨n, z, rfl, rfl, rfl⟩ | ⟨p, xs, g1, g2, g3, g4, rfl⟩
  · exact .inl ⟨n, z, rfl, rfl, q c rfl⟩
  · exact .inr ⟨p, xs, g1, g2, g3, g4, q c rfl⟩
theorem cp_notin : CmpPrim X EW .notin (rNotInM X.K) := fun c h x y u v Q wf r1 r2 b e q => by
  have e : (inF h x y).map (!·) = some b := e
  cases e1 : inF h x y with
  | none => rw [e1] at e; cases e
  | some b' =>
    rw [e1] at e
    cases e
    rcases in_ wf r1 r2 e1 with ⟨n, z, rfl, rfl, rfl⟩ | ⟨p, xs, g1, g2, g3, g4, rfl⟩
    · exact .inl ⟨n, z, rfl, rfl, q c rfl⟩
    · exact .inr ⟨p, xs, g1, g2, g3, g4, q c rfl⟩
/-- the layer's rule behind each comparison -/
structure CmpRule (X : Cx) (EW : EWish) (op : CmpOp) (m : Cop) where
  r : R2
  rule : OpR X (compareOp op) r
  prim : CmpPrim X EW m r
def cr_eq (hu : X.A.units + 64 < cLine) : CmpRule X EW .Eq .eq := ⟨_, op_eq.or (op_eqD hu), cp_eq hu⟩
def cr_ne (hu : X.A.units + 64 < cLine) : CmpRule X EW .NotEq .ne := ⟨_, op_ne.or (op_neD hu), cp_ne hu⟩
def cr_lt : CmpRule X EW .Lt .lt := ⟨_, op_lt, cp_lt⟩
def cr_le : CmpRule X EW .LtE .le := ⟨_, op_le, cp_le⟩
def cr_gt : CmpRule X EW .Gt .gt := ⟨_, op_gt, cp_gt⟩
def cr_ge : CmpRule X EW .GtE .ge := ⟨_, op_ge, cp_ge⟩
def cr_is : CmpRule X EW .Is .is := ⟨_, op_isN, cp_is⟩
def cr_isnot : CmpRule X EW .IsNot .isnot := ⟨_, op_notN, cp_isnot⟩
def cr_in : CmpRule X EW .In .isin := ⟨_, op_inM, cp_in⟩
def cr_notin : CmpRule X EW .NotIn .notin := ⟨_, op_notInM, cp_notin⟩
theorem sim_cmp {op : CmpOp} {m : Cop} (R : CmpRule X EW op m) {a b : Expr} {ma mb : E} {pos : Pos} (ha : PE X a (tE X.K EW C G ma)) (hb : PE X b (tE X.K EW C G mb)) (hm : behindInMarks op b = false := by first | exact nomark _ | rfl) :
    PE X (.Compare a [op] [b] pos) (tE X.K EW C G (.cmp m ma mb)) := (pe_cmpR R.rule ha hb hm).imp (cmp_two R.prim)
theorem tst_cmp {op : CmpOp} {m : Cop} (R : CmpRule X EW op m) {a b : Expr} {ma mb : E} {pos : Pos} (ha : PE X a (tE X.K EW C G ma)) (hb : PE X b (tE X.K EW C G mb)) (hm : behindInMarks op b = false := by first | exact nomark _ | rfl) :
    PT X (.Compare a [op] [b] pos) (tT X.K EW C G (.cmp m ma mb)) := (pt_cmpR R.rule ha hb hm).imp fun σ H Q w => cmp_two R.prim σ H _ w
theorem chain_red {op op' : CmpOp} {m m' : Cop} (R : CmpRule X EW op m) (R' : CmpRule X EW op' m') {a b c : E} : ∀ σ H Q, tE X.K EW C G (.chain m m' a b c) σ H Q → tChain R.r R'.r (tE X.K EW C G a) (tE X.K EW C G b) (tE X.K EW C G c) σ H Q := fun σ H Q w => by
  obtain ⟨He, c0, h, env, rfl, wf, re, p⟩ := w
  unfold evalE at p
  refine ⟨He, c0, h, env, rfl, wf, re, p.bind fun x h1 c1 u le1 wf1 r1 p1 => ?_⟩
  have p1 := PostE.lift le1 p1
  refine ⟨He, c1, h1, env, rfl, wf1, re.mono le1, p1.bind fun y h2 c2 v le2 wf2 r2 p2 => ?_⟩
  have p2 := PostE.lift le2 p2
  cases e : cmpF h2 m x y with
  | none => rw [e] at p2; exact False.elim p2
  | some k =>
    rw [e] at p2
    refine R.prim c2 h2 x y u v _ wf2 (RelR.mono le2 r1.1) r2.1 k e fun c' ec => ?_
    subst ec
    refine ⟨k, rfl, ?_⟩
    cases k with
    | false => exact PostE.here wf2 p2 relBl
    | true =>
      refine ⟨He, c', h2, env, rfl, wf2, (re.mono le1).mono le2, p2.bind fun z h3 c3 t le3 wf3 r3 p3 => ?_⟩
      have p3 := PostE.lift le3 p3
      cases e' : cmpF h3 m' y z with
      | none => rw [e'] at p3; exact False.elim p3
      | some k' =>
        rw [e'] at p3
        exact R'.prim c3 h3 y z v t _ wf3 (RelR.mono le3 r2.1) r3.1 k' e' fun c' ec => by subst ec; exact PostE.here wf3 p3 relBl
theorem sim_chain {op op' : CmpOp} {m m' : Cop} (R : CmpRule X EW op m) (R' : CmpRule X EW op' m') {a b c : Expr} {ma mb mc : E} {pos : Pos} (ha : PE X a (tE X.K EW C G ma)) (hb : PE X b (tE X.K EW C G mb)) (hc : PE X c (tE X.K EW C G mc))
    (hm : lastMarks [op, op'] [b, c] = false := by with_unfolding_all rfl) : PE X (.Compare a [op, op'] [b, c] pos) (tE X.K EW C G (.chain m m' ma mb mc)) := (pe_chain R.rule R'.rule ha hb hc hm).imp (chain_red R R')
theorem tst_chain {op op' : CmpOp} {m m' : Cop} (R : CmpRule X EW op m) (R' : CmpRule X EW op' m') {a b c : Expr} {ma mb mc : E} {pos : Pos} (ha : PE X a (tE X.K EW C G ma)) (hb : PE X b (tE X.K EW C G mb)) (hc : PE X c (tE X.K EW C G mc))
    (hm : lastMarks [op, op'] [b, c] = false := by with_unfolding_all rfl) : PT X (.Compare a [op, op'] [b, c] pos) (tT X.K EW C G (.chain m m' ma mb mc)) := (pt_chain R.rule R'.rule ha hb hc hm).imp fun σ H Q w => chain_red R R' σ H _ w
/-! ### and, or, not, if -/
theorem tst_val {e : Expr} {m : E} (h : PE X e (tE X.K EW C G m)) (he : ∀ whole, isTrue e X.env whole = (do let v ← whole; standAt e.pos; holding [v] (truthy v)) := by intro _; rfl) : PT X e (tT X.K EW C G m) := pt_val h he
theorem and2_red {a b : E} : ∀ σ H Q, tE X.K EW C G (.and2 a b) σ H Q → tAndV (tE X.K EW C G a) (tE X.K EW C G b) σ H Q := fun σ H Q w => by
  obtain ⟨He, c, h, env, rfl, wf, re, p⟩ := w
  unfold evalE at p
  refine ⟨He, c, h, env, rfl, wf, re, p.bind fun x h1 c1 u le1 wf1 r1 p1 => ?_⟩
  have p1 := PostE.lift le1 p1
  split at p1
  · have q : RelD X.K c1 (.bl true) u := r1.1
    unfold RelD at q
    exact ⟨true, q, by rw [if_pos rfl]; exact ⟨He, c1, h1, env, rfl, wf1, re.mono le1, p1⟩⟩
  · have q : RelD X.K c1 (.bl false) u := r1.1
    unfold RelD at q
    exact ⟨false, q, by rw [if_neg Bool.false_ne_true]; exact PostE.here wf1 p1 relBl⟩
  · exact False.elim p1
theorem or2_red {a b : E} : ∀ σ H Q, tE X.K EW C G (.or2 a b) σ H Q → tOrV (tE X.K EW C G a) (tE X.K EW C G b) σ H Q := fun σ H Q w => by
  obtain ⟨He, c, h, env, rfl, wf, re, p⟩ := w
  unfold evalE at p
  refine ⟨He, c, h, env, rfl, wf, re, p.bind fun x h1 c1 u le1 wf1 r1 p1 => ?_⟩
  have p1 := PostE.lift le1 p1
  split at p1
  · have q : RelD X.K c1 (.bl true) u := r1.1
    unfold RelD at q
    exact ⟨true, q, by rw [if_pos rfl]; exact PostE.here wf1 p1 relBl⟩
  · have q : RelD X.K c1 (.bl false) u := r1.1
    unfold RelD at q
    exact ⟨false, q, by rw [if_neg Bool.false_ne_true]; exact ⟨He, c1, h1, env, rfl, wf1, re.mono le1, p1⟩⟩
  · exact False.elim p1
theorem not1_red {a : E} : ∀ σ H Q, tE X.K EW C G (.not1 a) σ H Q → tNotV (tE X.K EW C G a) σ H Q := fun σ H Q w => by
  obtain ⟨He, c, h, env, rfl, wf, re, p⟩ := w
  unfold evalE at p
  refine ⟨He, c, h, env, rfl, wf, re, p.bind fun x h1 c1 u le1 wf1 r1 p1 => ?_⟩
  have p1 := PostE.lift le1 p1
  split at p1
  · rename_i k0 _
    have q : RelD X.K c1 (.bl k0) u := r1.1
    unfold RelD at q
    exact ⟨k0, q, PostE.here wf1 p1 relBl⟩
  · exact False.elim p1
theorem ite_red {a b d : E} : ∀ σ H Q, tE X.K EW C G (.ite d a b) σ H Q → tIf (tT X.K EW C G d) (tE X.K EW C G a) (tE X.K EW C G b) σ H Q := fun σ H Q w => by
  obtain ⟨He, c, h, env, rfl, wf, re, p⟩ := w
  unfold evalE at p
  refine ⟨He, c, h, env, rfl, wf, re, p.bind fun x h1 c1 u le1 wf1 r1 p1 => ?_⟩
  have p1 := PostE.lift le1 p1
  split at p1
  · have q : RelD X.K c1 (.bl true) u := r1.1
    unfold RelD at q
    exact ⟨true, q, by show if true = true then _ else _; rw [if_pos rfl]; exact ⟨He, c1, h1, env, rfl, wf1, re.mono le1, p1⟩⟩
  · have q : RelD X.K c1 (.bl false) u := r1.1
    unfold RelD at q
    exact ⟨false, q, by show if false = true then _ else _; rw [if_neg Bool.false_ne_true]; exact ⟨He, c1, h1, env, rfl, wf1, re.mono le1, p1⟩⟩
  · exact False.elim p1
variable {a b d : Expr} {ma mb md : E} {rest : List Expr} {pos : Pos}
theorem sim_last {op : BoolOp} (ha : PE X a (tE X.K EW C G ma)) : PE X (.BoolOp op [a] pos) (tE X.K EW C G ma) := pe_one ha
theorem sim_and (ha : PE X a (tE X.K EW C G ma)) (hb : PE X (.BoolOp .And (b :: rest) pos) (tE X.K EW C G mb)) : PE X (.BoolOp .And (a :: b :: rest) pos) (tE X.K EW C G (.and2 ma mb)) := (pe_and ha hb).imp and2_red
theorem sim_or (ha : PE X a (tE X.K EW C G ma)) (hb : PE X (.BoolOp .Or (b :: rest) pos) (tE X.K EW C G mb)) : PE X (.BoolOp .Or (a :: b :: rest) pos) (tE X.K EW C G (.or2 ma mb)) := (pe_or ha hb).imp or2_red
theorem sim_not (ha : PE X a (tE X.K EW C G ma)) : PE X (.UnaryOp .Not a pos) (tE X.K EW C G (.not1 ma)) := (pe_not ha).imp not1_red
theorem sim_ite (hd : PT X d (tT X.K EW C G md)) (ha : PE X a (tE X.K EW C G ma)) (hb : PE X b (tE X.K EW C G mb)) : PE X (.IfExp d a b pos) (tE X.K EW C G (.ite md ma mb)) := (pe_ifExp hd ha hb).imp ite_red
theorem tE_mono {m : E} {σ : L2.St} {H : Hp} {Q Q' : VK} (w : tE X.K EW C G m σ H Q) (k : ∀ v H', Q v H' → Q' v H') : tE X.K EW C G m σ H Q' := by
  obtain ⟨He, c, h, env, e, wf, re, p⟩ := w
  refine ⟨He, c, h, env, e, wf, re, ?_⟩
  cases q : evalE C G m env h with
  | bad => rw [q] at p; exact p
  | ok r h' => rw [q] at p; exact fun c' v l w' rr => k v _ (p c' v l w' rr)
  | ex x h' => rw [q] at p; exact p
theorem tst_last {op : BoolOp} (ha : PT X a (tT X.K EW C G ma)) : PW X (.BoolOp op [a] pos) (tT X.K EW C G ma) := by
  cases op with
  | And => exact pw_and1 ha
  | Or => exact pw_or1 ha
theorem tst_and (ha : PT X a (tT X.K EW C G ma)) (hb : PW X (.BoolOp .And (b :: rest) pos) (tT X.K EW C G mb)) : PW X (.BoolOp .And (a :: b :: rest) pos) (tT X.K EW C G (.and2 ma mb)) :=
  (pw_and ha hb).imp fun σ H Q w => by
    refine tE_mono (and2_red σ H _ w) fun v H' q => ?_
    obtain ⟨k, e, q⟩ := q
    refine ⟨k, e, ?_⟩
    cases k with
    | true => rw [if_pos rfl] at q ⊢; exact q
    | false =>
      rw [if_neg Bool.false_ne_true] at q ⊢
      obtain ⟨k', e', q⟩ := q
      cases e'
      exact q
theorem tst_or (ha : PT X a (tT X.K EW C G ma)) (hb : PW X (.BoolOp .Or (b :: rest) pos) (tT X.K EW C G mb)) : PW X (.BoolOp .Or (a :: b :: rest) pos) (tT X.K EW C G (.or2 ma mb)) :=
  (pw_or ha hb).imp fun σ H Q w => by
    refine tE_mono (or2_red σ H _ w) fun v H' q => ?_
    obtain ⟨k, e, q⟩ := q
    refine ⟨k, e, ?_⟩
    cases k with
    | false => rw [if_neg Bool.false_ne_true] at q ⊢; exact q
    | true =>
      rw [if_pos rfl] at q ⊢
      obtain ⟨k', e', q⟩ := q
      cases e'
      exact q
theorem tst_not (ha : PT X a (tT X.K EW C G ma)) : PT X (.UnaryOp .Not a pos) (tT X.K EW C G (.not1 ma)) :=
  (pt_not ha).imp fun σ H Q w => by
    refine tE_mono (not1_red σ H _ w) fun v H' q => ?_
    obtain ⟨k, e, q⟩ := q
    refine ⟨k, e, ?_⟩
    obtain ⟨k', e', q⟩ := q
    cases e'
    exact q
end
end Mi
/-! Mi4: arguments, displays, built-ins, places, comprehensions. -/
namespace Mi
open PySem PySem.Spec PyProof.Rows L2
variable [Tb]

section
variable {X : Cx} {EW : EWish} {C : Calls'} {G : Str → Option D}
/-! ### arguments -/
theorem args_nil : PA X [] (tA X.K EW C G .nil) := pa_nil.imp fun σ H Q w => by
  obtain ⟨He, c, h, env, rfl, wf, re, p⟩ := w
  unfold evalEs at p
  exact p c [] (Le.refl c) wf RelDs.nil
theorem args_cons {e : Expr} {es : List Expr} {m : E} {ms : Es} (he : PE X e (tE X.K EW C G m)) (hes : PA X es (tA X.K EW C G ms)) (hs : starEach (e :: es) X.env = (false, eval e X.env) :: starEach es X.env := by rfl) :
    PA X (e :: es) (tA X.K EW C G (.cons m ms)) := (pa_cons he hes hs).imp fun σ H Q w => by
  obtain ⟨He, c, h, env, rfl, wf, re, p⟩ := w
  unfold evalEs at p
  refine ⟨He, c, h, env, rfl, wf, re, p.bind fun x h1 c1 u le1 wf1 r1 p1 => ?_⟩
  cases e : x.fz with
  | none => rw [e] at p1; exact False.elim p1
  | some d =>
    rw [e] at p1
    obtain ⟨c2, eH, le2, st2, wf2, r2⟩ := freeze_ans le1 wf1 r1 e
    have p2 := Post.lift le2 (fun _ _ _ h => h) p1
    refine ⟨He, c2, h1, env, eH, wf2, re.mono le2, Post.bind (Rl1 := RA X.K) p2 fun ds h2 c3 vs le3 wf3 r3 p3 => ?_⟩
    exact p3 c3 (u :: vs) le3 wf3 (RelDs.cons (RelD.mono le3.toSta _ _ r2) r3)
/-! ### displays -/
theorem sim_tup {es : List Expr} {ms : Es} {k : Nat} {pos : Pos} (hes : PA X es (tA X.K EW C G ms)) : PE X (.Tuple es k pos) (tE X.K EW C G (.tup ms)) := (pe_tup hes).imp fun σ H Q w => by
  obtain ⟨He, c, h, env, rfl, wf, re, p⟩ := w
  unfold evalE at p
  refine ⟨He, c, h, env, rfl, wf, re, p.bind fun ds h1 c1 vs le1 wf1 r1 p1 => ?_⟩
  split at p1
  · rename_i hz
    exact ⟨by rw [← RelDs.length r1]; exact hz, fun q hq => PostE.newT wf1 hq r1 (PostE.lift le1 p1)⟩
  · exact False.elim p1
theorem sim_lst {es : List Expr} {ms : Es} {pos : Pos} (hes : PA X es (tA X.K EW C G ms)) : PE X (.List es pos) (tE X.K EW C G (.lst ms)) := (pe_lst hes).imp fun σ H Q w => by
  obtain ⟨He, c, h, env, rfl, wf, re, p⟩ := w
  unfold evalE at p
  refine ⟨He, c, h, env, rfl, wf, re, p.bind fun ds h1 c1 vs le1 wf1 r1 p1 => ?_⟩
  split at p1
  · rename_i hz
    exact ⟨by rw [← RelDs.length r1]; exact hz, fun q hq => PostE.newL wf1 hq r1 (PostE.lift le1 p1)⟩
  · exact False.elim p1
theorem sim_promo {e : Expr} {m : E} (he : PE X e (tE X.K EW C G m)) : PE X e (tE X.K EW C G (.promo m)) := he.imp fun σ H Q w => by
  obtain ⟨He, c, h, env, rfl, wf, re, p⟩ := w
  unfold evalE at p
  refine ⟨He, c, h, env, rfl, wf, re, p.bind fun x h1 c1 u le1 wf1 r1 p1 => ?_⟩
  split at p1
  · rename_i l
    obtain ⟨⟨a, vs, rfl, g1, g2, g3, g4⟩, g5⟩ := r1
    have wf2 := grow_wf (o := .lst l) wf1 ⟨vs, g1, g4⟩ g2 g3
    refine p1 (c1.grow a) (.ref a) (grow_le le1 g5) wf2 ⟨?_, True.intro⟩
    show RelD X.K _ (.ref _) _
    unfold RelD
    rw [← wf1.sz]
    exact ⟨Nat.lt_succ_self _, by rw [grow_n]⟩
  · exact p1 c1 u le1 wf1 r1
  · exact False.elim p1
/-! ### built-in functions -/
def BltPrim (X : Cx) (EW : EWish) (f : Blt) (r : List V → Hp → VK → Prop) : Prop :=
  ∀ (c : Cfg) (h : Hh) (ds : List D) (vs : List V) (Q : VK), WF X.K c h → RelDs X.K c ds vs → PostE X.K EW c Q (Res.of h (bltF h f ds)) → r vs c.H Q
theorem blt_red {f : Blt} {r : List V → Hp → VK → Prop} (pr : BltPrim X EW f r) {ms : Es} : ∀ σ H Q, tE X.K EW C G (.blt f ms) σ H Q → tCB r (tA X.K EW C G ms) σ H Q := fun σ H Q w => by
  obtain ⟨He, c, h, env, rfl, wf, re, p⟩ := w
  unfold evalE at p
  refine ⟨He, c, h, env, rfl, wf, re, p.bind fun ds h1 c1 vs le1 wf1 r1 p1 => ?_⟩
  exact pr c1 h1 ds vs Q wf1 r1 (PostE.lift le1 p1)
/-- a built-in function, a built-in class called -/
structure BltRule (X : Cx) (EW : EWish) (v : Value) (f : Blt) where
  r : List V → Hp → VK → Prop
  rule : CallR X v r
  prim : BltPrim X EW f r
theorem sim_blt {id : String} {f : Blt} (R : BltRule X EW (.builtin id) f) {x : Str} {e : Expr} {es : List Expr} {ms : Es} {p pos : Pos} (ha : PA X (e :: es) (tA X.K EW C G ms)) (hm : X.mg x = none) (hv : bootBuiltins x = some (.builtin id)) (hg : Gl X x := by rfl)
    (hn : x ≠ "__name__" := by decide) (hdb : (x == ("__debug__" : Str)) = false := by decide) (he : starEach (e :: es) X.env = (false, eval e X.env) :: starEach es X.env := by rfl) (hpl : (backTo pos (starEach es X.env)).any (·.1) = false := by rfl) :
    PE X (.Call (.Name x p) (e :: es) [] pos) (tE X.K EW C G (.blt f ms)) := (pe_callB R.rule hg hm hv ha hn hdb he hpl).imp (blt_red R.prim)
theorem sim_bltT {id : String} {f : Blt} (R : BltRule X EW (.type id) f) {x : Str} {e : Expr} {es : List Expr} {ms : Es} {p pos : Pos} (ha : PA X (e :: es) (tA X.K EW C G ms)) (hm : X.mg x = none) (hv : bootBuiltins x = some (.type id)) (hg : Gl X x := by rfl)
    (hn : x ≠ "__name__" := by decide) (hdb : (x == ("__debug__" : Str)) = false := by decide) (he : starEach (e :: es) X.env = (false, eval e X.env) :: starEach es X.env := by rfl) (hpl : (backTo pos (starEach es X.env)).any (·.1) = false := by rfl) :
    PE X (.Call (.Name x p) (e :: es) [] pos) (tE X.K EW C G (.blt f ms)) := (pe_callTy R.rule hg hm hv ha hn hdb he hpl).imp (blt_red R.prim)
theorem one_arg {c : Cfg} {d : D} {vs : List V} (h : RelDs X.K c [d] vs) : ∃ v, vs = [v] ∧ RelD X.K c d v := by
  unfold RelDs at h
  obtain ⟨v, r, rfl, h1, h2⟩ := h
  unfold RelDs at h2
  subst h2
  exact ⟨v, rfl, h1⟩
def br_len : BltRule X EW (.builtin "len") .len := ⟨_, call_len, fun c h ds vs Q wf r p => by
  replace p : PostE X.K EW c Q (Res.of h (lenF h ds)) := p
  unfold lenF at p
  split at p
  · rename_i s
    split at p
    · rename_i hz
      obtain ⟨v, rfl, r1⟩ := one_arg r
      unfold RelD at r1
      subst r1
      exact ⟨.str s, s.length, rfl, ⟨hz, rfl⟩, PostE.here wf p relInt⟩
    · exact False.elim p
  · rename_i d _
    cases e : sv h (.dat d) with
    | none => rw [e] at p; exact False.elim p
    | some l =>
      rw [e] at p
      obtain ⟨v, rfl, r1⟩ := one_arg r
      obtain ⟨a, xs, rfl, e2, e3⟩ := sv_rel wf (r := .dat d) r1 e
      refine ⟨.ref a, xs.length, rfl, ?_, by rw [← RelDs.length e3]; exact PostE.here wf p relInt⟩
      rcases e2 with e2 | e2
      · exact .inl ⟨xs, e2, rfl⟩
      · exact .inr ⟨xs, e2, rfl⟩
  · exact False.elim p⟩
theorem bools_rel {c : Cfg} : ∀ {l : List D} {vs : List V} {bs : List Bool}, RelDs X.K c l vs → boolsOf l = some bs → vs = bs.map V.bl
  | [], vs, bs, h, e => by unfold RelDs at h; unfold boolsOf at e; cases e; exact h
  | d :: l, vs, bs, h, e => by
    unfold RelDs at h
    obtain ⟨v, r, rfl, h1, h2⟩ := h
    cases d with
    | bl b =>
      unfold boolsOf at e
      cases q : boolsOf l with
      | none => rw [q] at e; cases e
      | some bs' =>
        rw [q] at e; cases e
        unfold RelD at h1
        rw [h1, bools_rel h2 q] <;> rfl
    | _ => unfold boolsOf at e; cases e
def br_all (hc : X.calm = true) : BltRule X EW (.builtin "all") .all := ⟨_, cr_all hc, fun c h ds vs Q wf r p => by
  replace p : PostE X.K EW c Q (Res.of h (allF ds)) := p
  unfold allF at p
  split at p
  · rename_i l
    cases e : boolsOf l with
    | none => rw [e] at p; exact False.elim p
    | some bs =>
      rw [e] at p
      obtain ⟨v, rfl, r1⟩ := one_arg r
      unfold RelD at r1
      obtain ⟨a, xs, rfl, _, e2, e3⟩ := r1
      exact ⟨a, bs, rfl, by rw [← bools_rel e3 e]; exact .inl (.inl e2), PostE.here wf p relBl⟩
  · exact False.elim p⟩
def br_any (hc : X.calm = true) : BltRule X EW (.builtin "any") .any := ⟨_, cr_any hc, fun c h ds vs Q wf r p => by
  replace p : PostE X.K EW c Q (Res.of h (anyF ds)) := p
  unfold anyF at p
  split at p
  · rename_i l
    cases e : boolsOf l with
    | none => rw [e] at p; exact False.elim p
    | some bs =>
      rw [e] at p
      obtain ⟨v, rfl, r1⟩ := one_arg r
      unfold RelD at r1
      obtain ⟨a, xs, rfl, _, e2, e3⟩ := r1
      exact ⟨a, bs, rfl, by rw [← bools_rel e3 e]; exact .inl (.inl e2), PostE.here wf p relBl⟩
  · exact False.elim p⟩
/-- repr of data -/
def rRepr (K : PySem.W.Frag) : List V → Hp → VK → Prop := fun xs H Q => ∃ x p, xs = [x] ∧ Dp K H x p ∧ p.showable = true ∧ p.hasDict = false ∧ p.shown.length ≤ sizeLine ∧ p.depth ≤ 64 ∧ Q (.str p.shown) H
theorem call_reprD (hu : X.A.units + 200 < cLine) (hg : X.A.guards = some []) : CallR X (.builtin "repr") (rRepr X.K) := by
  intro pins s σ H xs us Q I r h
  obtain ⟨x, p, rfl, dp, h1, h2, h3, h4, q⟩ := h
  obtain ⟨u, rfl, ru⟩ := Vals.one r
  obtain ⟨as, rd⟩ := Dp.reads I p x u dp ru
  cases dp with
  | non => cases ru; exact PySem.P.repr_of_none ⟨.str _, H, I.tok _, ⟨_, rfl⟩, q⟩
  | bl b =>
    cases ru
    refine PySem.P.repr_of_bool ⟨.str _, H, I.tok _, ⟨_, rfl⟩, ?_⟩
    simpa only [PyData.shown] using q
  | int i =>
    obtain ⟨t, rfl⟩ := ru
    refine PySem.P.repr_of_int (by simpa only [PyData.showable, decide_eq_true_eq] using h1) ⟨.str _, H, I.tok _, ⟨_, rfl⟩, ?_⟩
    simpa only [PyData.shown] using q
  | str y =>
    obtain ⟨t, rfl⟩ := ru
    refine PySem.P.repr_of_str ⟨.str _, H, I.tok _, ⟨_, rfl⟩, ?_⟩ (by simpa only [PyData.shown] using h3)
    simpa only [PyData.shown] using q
  | lst _ _ =>
    cases ru
    exact repr_of_reads' rd h1 (PyData.noDict_hsm h2) hg (by omega) (fun _ _ e => e) (fun h' t tk hk => ⟨.str _, H, I.kept (h' := h') (t' := tk) hk, ⟨_, rfl⟩, q⟩) h3
  | tup _ _ =>
    cases ru
    exact repr_of_reads' rd h1 (PyData.noDict_hsm h2) hg (by omega) (fun _ _ e => e) (fun h' t tk hk => ⟨.str _, H, I.kept (h' := h') (t' := tk) hk, ⟨_, rfl⟩, q⟩) h3
def br_repr (hu : X.A.units + 200 < cLine) (hg : X.A.guards = some []) : BltRule X EW (.builtin "repr") .repr := ⟨_, call_reprD hu hg, fun c h ds vs Q wf r p => by
  replace p : PostE X.K EW c Q (Res.of h (reprF h ds)) := p
  unfold reprF at p
  split at p
  · rename_i d
    split at p
    · rename_i y e
      split at p
      · rename_i hz
        simp only [Bool.and_eq_true, Bool.not_eq_true', decide_eq_true_eq] at hz
        obtain ⟨v, rfl, r1⟩ := one_arg r
        exact ⟨v, y, rfl, dpR_of wf (r := .dat d) r1 e, hz.1.1.1, hz.1.1.2, hz.1.2, hz.2, PostE.here wf p relStr⟩
      · exact False.elim p
    · exact False.elim p
  · exact False.elim p⟩
def rToInt : List V → Hp → VK → Prop := fun xs H Q => ((∃ i, xs = [.int i] ∧ Q (.int i) H) ∨ ∃ k, xs = [.bl k] ∧ Q (.int (if k then 1 else 0)) H) ∨ (∃ a n, xs = [.str a] ∧ PySem.intText? a = some n ∧ a.length ≤ 640 ∧ Q (.int n) H)
def br_int : BltRule X EW (.type "int") .toInt := ⟨rToInt, CallR.or call_int1 call_int_str, fun c h ds vs Q wf r p => by
  replace p : PostE X.K EW c Q (Res.of h (toIntF ds)) := p
  unfold toIntF at p
  split at p
  · obtain ⟨v, rfl, r1⟩ := one_arg r
    unfold RelD at r1
    subst r1
    exact .inl (.inl ⟨_, rfl, PostE.here wf p relInt⟩)
  · obtain ⟨v, rfl, r1⟩ := one_arg r
    unfold RelD at r1
    subst r1
    exact .inl (.inr ⟨_, rfl, PostE.here wf p relInt⟩)
  · split at p
    · rename_i n e
      split at p
      · rename_i hz
        obtain ⟨v, rfl, r1⟩ := one_arg r
        unfold RelD at r1
        subst r1
        exact .inr ⟨_, n, rfl, e, hz, PostE.here wf p relInt⟩
      · exact False.elim p
    · exact False.elim p
  · exact False.elim p⟩
def br_str : BltRule X EW (.type "str") .toStr := ⟨_, call_str_int, fun c h ds vs Q wf r p => by
  replace p : PostE X.K EW c Q (Res.of h (toStrF ds)) := p
  unfold toStrF at p
  split at p
  · split at p
    · rename_i hz
      obtain ⟨v, rfl, r1⟩ := one_arg r
      unfold RelD at r1
      subst r1
      exact ⟨_, rfl, hz, PostE.here wf p relStr⟩
    · exact False.elim p
  · exact False.elim p⟩
theorem intsOf_rel {c : Cfg} : ∀ {l : List D} {ns : List Int} {vs : List V}, intsOf l = some ns → RelDs X.K c l vs → vs = ns.map V.int
  | [], ns, vs, e, r => by
    unfold RelDs at r
    cases e
    exact r
  | d :: l, ns, vs, e, r => by
    unfold RelDs at r
    obtain ⟨v, u, rfl, h1, h2⟩ := r
    cases d with
    | int i =>
      simp only [intsOf] at e
      cases q : intsOf l with
      | none => rw [q] at e; cases e
      | some ms =>
        rw [q] at e
        cases e
        unfold RelD at h1
        rw [h1, intsOf_rel q h2]
        rfl
    | _ => simp only [intsOf] at e; cases e
theorem ints_arg {c : Cfg} {h : Hh} {d : D} {v : V} {ns : List Int} (wf : WF X.K c h) (r : RelD X.K c d v) (e : intsL h d = some ns) : ∃ a, v = .ref a ∧ c.H a = some (.lst (ns.map V.int)) := by
  unfold intsL at e
  cases q : lv h (.dat d) with
  | none => rw [q] at e; cases e
  | some l =>
    rw [q] at e
    obtain ⟨a, vs, rfl, g1, g2⟩ := lv_rel (r := .dat d) wf r q
    exact ⟨a, rfl, by rw [g1, intsOf_rel e g2]⟩
omit [Tb] in
theorem fold_max : ∀ (l : List Int) (n m : Int), (m = n ∨ m ∈ l) → n ≤ m → (∀ y ∈ l, y ≤ m) → l.foldl (fun a b => if a < b then b else a) n = m
  | [], n, m, h, _, _ => by
    rcases h with h | h
    · exact h.symm
    · cases h
  | x :: l, n, m, h, hn, hl => by
    have hx := hl x List.mem_cons_self
    refine fold_max l _ m ?_ ?_ fun y hy => hl y (List.mem_cons_of_mem _ hy)
    all_goals dsimp only
    · rcases h with h | h
      · subst h
        split
        · left; omega
        · exact .inl rfl
      · rcases List.mem_cons.mp h with h | h
        · subst h
          split
          · exact .inl rfl
          · left; omega
        · exact .inr h
    · split <;> omega
omit [Tb] in
theorem fold_min : ∀ (l : List Int) (n m : Int), (m = n ∨ m ∈ l) → m ≤ n → (∀ y ∈ l, m ≤ y) → l.foldl (fun a b => if b < a then b else a) n = m
  | [], n, m, h, _, _ => by
    rcases h with h | h
    · exact h.symm
    · cases h
  | x :: l, n, m, h, hn, hl => by
    have hx := hl x List.mem_cons_self
    refine fold_min l _ m ?_ ?_ fun y hy => hl y (List.mem_cons_of_mem _ hy)
    all_goals dsimp only
    · rcases h with h | h
      · subst h
        split
        · left; omega
        · exact .inl rfl
      · rcases List.mem_cons.mp h with h | h
        · subst h
          split
          · exact .inl rfl
          · left; omega
        · exact .inr h
    · split <;> omega
omit [Tb] in
theorem maxI_of {ns : List Int} {m k : Int} (e : maxI ns = some k) (h1 : m ∈ ns) (h2 : ∀ y, y ∈ ns → y ≤ m) : m = k := by
  cases ns with
  | nil => cases e
  | cons n ns =>
    cases e
    exact (fold_max ns n m (List.mem_cons.mp h1) (h2 n List.mem_cons_self) fun y hy => h2 y (List.mem_cons_of_mem _ hy)).symm
omit [Tb] in
theorem minI_of {ns : List Int} {m k : Int} (e : minI ns = some k) (h1 : m ∈ ns) (h2 : ∀ y, y ∈ ns → m ≤ y) : m = k := by
  cases ns with
  | nil => cases e
  | cons n ns =>
    cases e
    exact (fold_min ns n m (List.mem_cons.mp h1) (h2 n List.mem_cons_self) fun y hy => h2 y (List.mem_cons_of_mem _ hy)).symm
omit [Tb] in
theorem maxI_pos {ns : List Int} {k : Int} (e : maxI ns = some k) : 0 < ns.length := by
  cases ns with
  | nil => cases e
  | cons n ns => simp
omit [Tb] in
theorem minI_pos {ns : List Int} {k : Int} (e : minI ns = some k) : 0 < ns.length := by
  cases ns with
  | nil => cases e
  | cons n ns => simp
theorem two_ints {c : Cfg} {i j : Int} {vs : List V} (h : RelDs X.K c [.int i, .int j] vs) : vs = [.int i, .int j] := by
  have := intsOf_rel (l := [.int i, .int j]) (ns := [i, j]) rfl h
  exact this
def br_max2 (hc : X.calm = true) : BltRule X EW (.builtin "max") .max2 := ⟨_, call_max2 hc, fun c h ds vs Q wf r p => by
  replace p : PostE X.K EW c Q (Res.of h (max2F ds)) := p
  unfold max2F at p
  split at p
  · exact ⟨_, _, two_ints r, PostE.here wf p relInt⟩
  · exact False.elim p⟩
def br_min2 (hc : X.calm = true) : BltRule X EW (.builtin "min") .min2 := ⟨_, call_min2 hc, fun c h ds vs Q wf r p => by
  replace p : PostE X.K EW c Q (Res.of h (min2F ds)) := p
  unfold min2F at p
  split at p
  · exact ⟨_, _, two_ints r, PostE.here wf p relInt⟩
  · exact False.elim p⟩
def br_sum (hc : X.calm = true) : BltRule X EW (.builtin "sum") .sum := ⟨_, cr_sum hc, fun c h ds vs Q wf r p => by
  replace p : PostE X.K EW c Q (Res.of h (sumF h ds)) := p
  unfold sumF at p
  split at p
  · rename_i d
    obtain ⟨v, rfl, r1⟩ := one_arg r
    cases e : intsL h d with
    | none => rw [e] at p; exact False.elim p
    | some ns =>
      rw [e] at p
      obtain ⟨a, rfl, g⟩ := ints_arg wf r1 e
      exact ⟨a, ns, rfl, .inl (.inl g), PostE.here wf p relInt⟩
  · exact False.elim p⟩
def br_maxL (hc : X.calm = true) : BltRule X EW (.builtin "max") .maxL := ⟨_, cr_max hc, fun c h ds vs Q wf r p => by
  replace p : PostE X.K EW c Q (Res.of h (maxF h ds)) := p
  unfold maxF at p
  split at p
  · rename_i d
    obtain ⟨v, rfl, r1⟩ := one_arg r
    cases e : intsL h d with
    | none => rw [e] at p; exact False.elim p
    | some ns =>
      rw [e] at p
      cases e2 : maxI ns with
      | none =>
        have p : PostE X.K EW c Q (Res.of h ((maxI ns).map fun m => R.dat (.int m))) := p
        rw [e2] at p; exact False.elim p
      | some m =>
        have p : PostE X.K EW c Q (Res.of h ((maxI ns).map fun m => R.dat (.int m))) := p
        rw [e2] at p
        obtain ⟨a, rfl, g⟩ := ints_arg wf r1 e
        exact ⟨a, ns, rfl, .inl (.inl g), maxI_pos e2, fun k h1 h2 => by rw [maxI_of e2 h1 h2]; exact PostE.here wf p relInt⟩
  · exact False.elim p⟩
def br_minL (hc : X.calm = true) : BltRule X EW (.builtin "min") .minL := ⟨_, cr_min hc, fun c h ds vs Q wf r p => by
  replace p : PostE X.K EW c Q (Res.of h (minF h ds)) := p
  unfold minF at p
  split at p
  · rename_i d
    obtain ⟨v, rfl, r1⟩ := one_arg r
    cases e : intsL h d with
    | none => rw [e] at p; exact False.elim p
    | some ns =>
      rw [e] at p
      cases e2 : minI ns with
      | none =>
        have p : PostE X.K EW c Q (Res.of h ((minI ns).map fun m => R.dat (.int m))) := p
        rw [e2] at p; exact False.elim p
      | some m =>
        have p : PostE X.K EW c Q (Res.of h ((minI ns).map fun m => R.dat (.int m))) := p
        rw [e2] at p
        obtain ⟨a, rfl, g⟩ := ints_arg wf r1 e
        exact ⟨a, ns, rfl, .inl (.inl g), minI_pos e2, fun k h1 h2 => by rw [minI_of e2 h1 h2]; exact PostE.here wf p relInt⟩
  · exact False.elim p⟩
def br_tuple : BltRule X EW (.type "tuple") .toTuple := ⟨_, call_tuple_of, fun c h ds vs Q wf r p => by
  replace p : PostE X.K EW c Q (Res.of h (toTupF h ds)) := p
  unfold toTupF at p
  split at p
  · obtain ⟨v, rfl, r1⟩ := one_arg r
    have r0 := r1
    unfold RelD at r1
    obtain ⟨a, xs, rfl, e2, e3⟩ := r1
    exact ⟨a, xs, rfl, .inr ⟨e2, PostE.here wf p r0⟩⟩
  · rename_i d _
    cases e : lv h (.dat d) with
    | none => rw [e] at p; exact False.elim p
    | some l =>
      rw [e] at p
      obtain ⟨v, rfl, r1⟩ := one_arg r
      obtain ⟨a, xs, rfl, e2, e3⟩ := lv_rel wf (r := .dat d) r1 e
      exact ⟨a, xs, rfl, .inl ⟨.inl (.inl e2), fun q hq => PostE.newT wf hq e3 p⟩⟩
  · exact False.elim p⟩
def br_list : BltRule X EW (.type "list") .toList := ⟨_, call_list_of, fun c h ds vs Q wf r p => by
  replace p : PostE X.K EW c Q (Res.of h (toLstF h ds)) := p
  unfold toLstF at p
  split at p
  · rename_i d
    cases e : sv h (.dat d) with
    | none => rw [e] at p; exact False.elim p
    | some l =>
      rw [e] at p
      obtain ⟨v, rfl, r1⟩ := one_arg r
      obtain ⟨a, xs, rfl, e2, e3⟩ := sv_rel wf (r := .dat d) r1 e
      exact ⟨a, xs, rfl, e2, fun q hq => PostE.newL wf hq e3 p⟩
  · exact False.elim p⟩
/-! ### built-ins of one thing -/
structure BltRule1 (X : Cx) (EW : EWish) (v : Value) (f : Blt) where
  r : List V → Hp → VK → Prop
  rule : CallR X v r
  prim : ∀ (c : Cfg) (h : Hh) (x : R) (u : V) (Q : VK), WF X.K c h → RelR X.K c x u → PostE X.K EW c Q (Res.of h (bltR h f x)) → r [u] c.H Q
theorem blt1_red {f : Blt} {v : Value} (R : BltRule1 X EW v f) {m : E} (σ : L2.St) (H : Hp) (Q : VK) (w : tE X.K EW C G (.blt1 f m) σ H Q) : tE X.K EW C G m σ H fun u H1 => R.r [u] H1 Q := by
  obtain ⟨He, c, h, env, rfl, wf, re, p⟩ := w
  unfold evalE at p
  exact ⟨He, c, h, env, rfl, wf, re, p.bind fun x h1 c1 u le1 wf1 r1 p1 => R.prim c1 h1 x u Q wf1 r1.1 (PostE.lift le1 p1)⟩
theorem sim_blt1 {id : String} {f : Blt} (R : BltRule1 X EW (.builtin id) f) {x : Str} {e : Expr} {m : E} {p pos : Pos} (he : PE X e (tE X.K EW C G m)) (hm : X.mg x = none) (hv : bootBuiltins x = some (.builtin id)) (hg : Gl X x := by rfl)
    (hn : x ≠ "__name__" := by decide) (hdb : (x == ("__debug__" : Str)) = false := by decide) (hs : starEach [e] X.env = (false, eval e X.env) :: starEach [] X.env := by rfl) (hpl : (backTo pos (starEach [] X.env)).any (·.1) = false := by rfl) :
    PE X (.Call (.Name x p) [e] [] pos) (tE X.K EW C G (.blt1 f m)) := (pe_callB R.rule hg hm hv (pa_cons he pa_nil hs) hn hdb hs hpl).imp fun σ H Q w => blt1_red R σ H Q w
theorem sim_blt1T {id : String} {f : Blt} (R : BltRule1 X EW (.type id) f) {x : Str} {e : Expr} {m : E} {p pos : Pos} (he : PE X e (tE X.K EW C G m)) (hm : X.mg x = none) (hv : bootBuiltins x = some (.type id)) (hg : Gl X x := by rfl)
    (hn : x ≠ "__name__" := by decide) (hdb : (x == ("__debug__" : Str)) = false := by decide) (hs : starEach [e] X.env = (false, eval e X.env) :: starEach [] X.env := by rfl) (hpl : (backTo pos (starEach [] X.env)).any (·.1) = false := by rfl) :
    PE X (.Call (.Name x p) [e] [] pos) (tE X.K EW C G (.blt1 f m)) := (pe_callTy R.rule hg hm hv (pa_cons he pa_nil hs) hn hdb hs hpl).imp fun σ H Q w => blt1_red R σ H Q w
def b1_repr (hu : X.A.units + 200 < cLine) (hg : X.A.guards = some []) : BltRule1 X EW (.builtin "repr") .repr := ⟨_, call_reprD hu hg, fun c h x u Q wf r p => by
  replace p : PostE X.K EW c Q (Res.of h (reprB h x)) := p
  unfold reprB at p
  split at p
  · rename_i y e
    split at p
    · rename_i hz
      simp only [Bool.and_eq_true, Bool.not_eq_true', decide_eq_true_eq] at hz
      exact ⟨u, y, rfl, dpR_of wf r e, hz.1.1.1, hz.1.1.2, hz.1.2, hz.2, PostE.here wf p relStr⟩
    · exact False.elim p
  · exact False.elim p⟩
def b1_len : BltRule1 X EW (.builtin "len") .len := ⟨_, call_len, fun c h x u Q wf r p => by
  replace p : PostE X.K EW c Q (Res.of h (lenB h x)) := p
  unfold lenB at p
  split at p
  · rename_i s
    split at p
    · rename_i hz
      have r1 : RelD X.K c (.str s) u := r
      unfold RelD at r1
      subst r1
      exact ⟨.str s, s.length, rfl, ⟨hz, rfl⟩, PostE.here wf p relInt⟩
    · exact False.elim p
  · cases e : sv h x with
    | none => rw [e] at p; exact False.elim p
    | some l =>
      rw [e] at p
      obtain ⟨a, xs, rfl, e2, e3⟩ := sv_rel wf r e
      refine ⟨.ref a, xs.length, rfl, ?_, by rw [← RelDs.length e3]; exact PostE.here wf p relInt⟩
      rcases e2 with e2 | e2
      · exact .inl ⟨xs, e2, rfl⟩
      · exact .inr ⟨xs, e2, rfl⟩⟩
/-! ### isinstance -/
def Ty.nm : Ty → String
  | .int => "int"
  | .bool => "bool"
  | .str => "str"
  | .tuple => "tuple"
  | .list => "list"
theorem isi_ty {c : Cfg} {h : Hh} (wf : WF X.K c h) (t : Ty) : ∀ {d : D} {v : V} {b : Bool}, RelD X.K c d v → isiF h t d = some b → ∃ T : String, TyX X.K c.H v (.type T) ∧ PySem.W.kitOne X.K (.type T) (.type t.nm) = some b
  | .non, v, b, r, e => by
    unfold RelD at r; subst r; unfold isiF at e; cases e
    exact ⟨_, .base .non, by cases t <;> exact kit_ty (by decide +kernel)⟩
  | .bl x, v, b, r, e => by
    unfold RelD at r; subst r; unfold isiF at e; cases e
    exact ⟨_, .base (.bl x), by cases t <;> exact kit_ty (by decide +kernel)⟩
  | .int x, v, b, r, e => by
    unfold RelD at r; subst r; unfold isiF at e; cases e
    exact ⟨_, .base (.int x), by cases t <;> exact kit_ty (by decide +kernel)⟩
  | .str x, v, b, r, e => by
    unfold RelD at r; subst r; unfold isiF at e; cases e
    exact ⟨_, .base (.str x), by cases t <;> exact kit_ty (by decide +kernel)⟩
  | .tup l, v, b, r, e => by
    unfold RelD at r; unfold isiF at e; cases e
    obtain ⟨a, vs, rfl, h1, _⟩ := r
    refine ⟨"tuple", ?_, by cases t <;> exact kit_ty (by decide +kernel)⟩
    rcases h1 with (h1 | ⟨o, h1⟩) | ⟨o, its, n, h1, h2, _⟩
    · exact .base (.tup h1)
    · exact .fTuple h1
    · exact .kTuple h1 h2
  | .lst l, v, b, r, e => by
    unfold RelD at r; unfold isiF at e; cases e
    obtain ⟨a, vs, rfl, _, h1, _⟩ := r
    exact ⟨"list", .base (.lst h1), by cases t <;> exact kit_ty (by decide +kernel)⟩
  | .arg l, v, b, r, e => by unfold isiF at e; cases e
  | .sp _ _ _, v, b, r, e => by unfold isiF at e; cases e
  | .ref n, v, b, r, e => by
    unfold RelD at r
    simp only [isiF] at e
    obtain ⟨_, rfl⟩ := r
    split at e
    · rename_i l hl
      cases e
      obtain ⟨vs, e1, _⟩ := wf.obj n _ hl
      exact ⟨"list", .base (.lst e1), by cases t <;> exact kit_ty (by decide +kernel)⟩
    · rename_i l hl
      cases e
      obtain ⟨vs, e1, _⟩ := wf.obj n _ hl
      exact ⟨"dict", .base (.dK e1), by cases t <;> exact kit_ty (by decide +kernel)⟩
    · cases e
theorem boot_ty (t : Ty) : bootBuiltins t.nm = some (.type t.nm) := by cases t <;> decide +kernel
theorem sim_isi (t : Ty) {e : Expr} {m : E} {p p2 pos : Pos} {x2 : Str} (he : PE X e (tE X.K EW C G m)) (hm : X.mg "isinstance" = none) (hm2 : X.mg x2 = none) (hx2 : x2 = Str.ofString t.nm := by rfl) (hg : Gl X "isinstance" := by rfl) (hg2 : Gl X x2 := by rfl)
    (hn2 : x2 ≠ "__name__" := by decide) (hd2 : (x2 == ("__debug__" : Str)) = false := by decide)
    (hs : starEach [e, .Name x2 p2] X.env = (false, eval e X.env) :: starEach [.Name x2 p2] X.env := by rfl) (hs2 : starEach [.Name x2 p2] X.env = (false, eval (.Name x2 p2) X.env) :: starEach [] X.env := by rfl) (hpl : (backTo pos (starEach [.Name x2 p2] X.env)).any (·.1) = false := by rfl) :
    PE X (.Call (.Name "isinstance" p) [e, .Name x2 p2] [] pos) (tE X.K EW C G (.isi m t)) := by
  have hv : bootBuiltins x2 = some (.type t.nm) := by rw [hx2]; exact boot_ty t
  have h2 : PE X (.Name x2 p2) (tC (.ty t.nm)) := pe_bltn (v := .ty t.nm) hg2 hm2 hv rfl hn2 hd2
  refine PE.imp (pe_callB call_isi hg hm PyProof.Rows.boot_isinstance (pa_cons he (pa_cons h2 pa_nil hs2) hs) (by decide) (by decide) hs hpl) fun σ H Q w => ?_
  obtain ⟨He, c, h, env, rfl, wf, re, p⟩ := w
  unfold evalE at p
  refine ⟨He, c, h, env, rfl, wf, re, p.bind fun x h1 c1 u le1 wf1 r1 p1 => ?_⟩
  cases e1 : x.fz with
  | none => rw [e1] at p1; exact False.elim p1
  | some d =>
    rw [e1] at p1
    obtain ⟨c2, eH, le2, st2, wf2, r2⟩ := freeze_ans le1 wf1 r1 e1
    have p2 : PostE X.K EW c2 Q (Res.of h1 ((isiF h1 t d).map fun b => .dat (.bl b))) := PostE.lift le2 p1
    cases e2 : isiF h1 t d with
    | none => rw [e2] at p2; exact False.elim p2
    | some b =>
      rw [e2] at p2
      obtain ⟨T, g1, g2⟩ := isi_ty wf2 t r2 e2
      show rIsi X.K [u, .ty t.nm] c1.H Q
      rw [← eH]
      exact ⟨u, .ty t.nm, _, _, b, rfl, .ty _, g1, g2, PostE.here wf2 p2 relBl⟩
end
end Mi
/-! Mi5: places, slices, dicts, methods, what is walked, comprehensions. -/
namespace Mi
open PySem PySem.Spec PyProof.Rows L2
variable [Tb]

section
variable {X : Cx} {EW : EWish} {C : Calls'} {G : Str → Option D}
/-! ### places -/
theorem atI_rel {c : Cfg} {l : List D} {vs : List V} {i : Int} {d : D} (h : RelDs X.K c l vs) (e : atI l i = some d) : ∃ v, atI vs i = some v ∧ RelD X.K c d v := by
  unfold atI at e ⊢
  obtain ⟨j, e1, e2⟩ := Option.bind_eq_some_iff.mp e
  obtain ⟨v, e3, e4⟩ := RelDs.get h e2
  exact ⟨v, by rw [← RelDs.length h, e1]; exact e3, e4⟩
theorem prim_ix (c : Cfg) (h : Hh) (x y : R) (u v : V) (Q : VK) (wf : WF X.K c h) (r1 : RelR X.K c x u) (r2 : RelR X.K c y v) (p : PostE X.K EW c Q (Res.of h ((ixF h x y).map .dat))) : rIx X.K u v c.H Q := by
  cases e : ixF h x y with
  | none => rw [e] at p; exact False.elim p
  | some d =>
    rw [e] at p
    unfold ixF at e
    split at e
    · rename_i z i
      split at e
      · rename_i hz
        cases q : atI z.cps.toList i with
        | none => rw [q] at e; cases e
        | some n =>
          rw [q] at e; cases e
          exact .inr (.inr ⟨z, i, n, r1, r2, hz, q, PostE.here wf p relStr⟩)
      · cases e
    · rename_i i _
      obtain ⟨l, e1, e2⟩ := Option.bind_eq_some_iff.mp e
      obtain ⟨a, vs, rfl, g1, g2⟩ := sv_rel wf r1 e1
      obtain ⟨w, g3, g4⟩ := atI_rel g2 e2
      rcases g1 with g1 | g1
      · exact .inl ⟨a, vs, i, w, rfl, r2, g1, g3, PostE.here wf p g4⟩
      · exact .inr (.inl ⟨a, vs, i, w, rfl, r2, g1, g3, PostE.here wf p g4⟩)
    · cases e
theorem sim_ix {a b : Expr} {ma mb : E} {pos : Pos} (ha : PE X a (tE X.K EW C G ma)) (hb : PE X b (tE X.K EW C G mb)) (hs : PlainIx b := by exact fun _ _ => rfl) : PE X (.Subscript a b pos) (tE X.K EW C G (.ix ma mb)) :=
  (pe_ix ix_seq ha hb hs).imp (two_red (f := fun h x y => (ixF h x y).map .dat) (fun _ _ => by conv => lhs; unfold evalE) prim_ix)
/-! ### slices -/
theorem part_no : PO X none (tO X.K EW C G .no) := PO.imp po_none fun σ H Q w => by
  obtain ⟨He, c, h, env, rfl, wf, re, p⟩ := w
  unfold evalO at p
  exact p c none (Le.refl c) wf rfl
theorem part_some {e : Expr} {m : E} (he : PE X e (tE X.K EW C G m)) : PO X (some e) (tO X.K EW C G (.part m)) := PO.imp (po_some he) fun σ H Q w => by
  obtain ⟨He, c, h, env, rfl, wf, re, p⟩ := w
  unfold evalO at p
  refine ⟨He, c, h, env, rfl, wf, re, p.bind fun x h1 c1 u le1 wf1 r1 p1 => ?_⟩
  split at p1
  · rename_i i
    exact ⟨i, r1.1, p1 c1 (some i) le1 wf1 rfl⟩
  · exact False.elim p1
def rSlM (K : PySem.W.Frag) : V → Option Int → Option Int → Hp → VK → Prop := fun x lo hi H Q => rSlS x lo hi H Q ∨ (rSlA K x lo hi H Q ∨ rSlL K x lo hi H Q)
theorem sl_M : SlR X (rSlM X.K) := SlR.or sl_str (SlR.or sl_tupA sl_list)
theorem cut_rel {c : Cfg} {l : List D} {vs : List V} (h : RelDs X.K c l vs) (lo hi : Option Int) : RelDs X.K c (cutD l lo hi) (cutV vs lo hi) := by
  unfold cutD cutV
  rw [RelDs.length h]
  exact RelDs.take _ (RelDs.drop _ h)
theorem cut_whole {l : List D} {lo hi : Option Int} (h : HT.sIx l.length 0 lo = 0 ∧ HT.sIx l.length l.length hi = l.length) : cutD l lo hi = l := by
  unfold cutD
  rw [h.1, h.2, List.drop_zero, Nat.sub_zero, List.take_length]
theorem prim_sl (c : Cfg) (h : Hh) (x : R) (u : V) (lo hi : Option Int) (Q : VK) (wf : WF X.K c h) (r1 : RelR X.K c x u) (p : PostE X.K EW c Q (Res.of h (slF h lo hi x))) : rSlM X.K u lo hi c.H Q := by
  unfold slF at p
  split at p
  · rename_i z
    split at p
    · rename_i hz
      exact .inl ⟨z, r1, hz, PostE.here wf p relStr⟩
    · exact False.elim p
  · rename_i l
    have q : RelD X.K c (.tup l) u := r1
    unfold RelD at q
    obtain ⟨a, vs, rfl, g1, g2⟩ := q
    have el := RelDs.length g2
    refine .inr (.inl ⟨a, vs, rfl, g1, fun hw => ?_, fun _ b hb => PostE.newT wf hb (cut_rel g2 lo hi) p⟩)
    rw [← el] at hw
    have p' : PostE X.K EW c Q (.ok (.dat (.tup l)) h) := by
      have p2 : PostE X.K EW c Q (.ok (.dat (.tup (cutD l lo hi))) h) := p
      rw [cut_whole hw] at p2; exact p2
    exact PostE.here wf p' r1
  · cases e : lv h x with
    | none => rw [e] at p; exact False.elim p
    | some l =>
      rw [e] at p
      obtain ⟨a, vs, rfl, g1, g2⟩ := lv_rel wf r1 e
      exact .inr (.inr ⟨a, vs, rfl, .inl (.inl g1), fun b hb => PostE.newL wf hb (cut_rel g2 lo hi) p⟩)
theorem sim_sl {a : Expr} {lo hi : Option Expr} {ma : E} {ml mh : Oe} {p2 pos : Pos} (ha : PE X a (tE X.K EW C G ma)) (hl : PO X lo (tO X.K EW C G ml)) (hh : PO X hi (tO X.K EW C G mh)) :
    PE X (.Subscript a (.Slice lo hi none p2) pos) (tE X.K EW C G (.sl ma ml mh)) := (pe_slice sl_M ha hl hh).imp fun σ H Q w => by
  obtain ⟨He, c, h, env, rfl, wf, re, p⟩ := w
  unfold evalE at p
  refine ⟨He, c, h, env, rfl, wf, re, p.bind fun x h1 c1 u le1 wf1 r1 p1 => ?_⟩
  replace p1 := PostE.lift le1 p1
  refine ⟨He, c1, h1, env, rfl, wf1, re.mono le1, Post.bind (Rl1 := RO) p1 fun i h2 c2 i' le2 wf2 r2 p2 => ?_⟩
  replace p2 := PostE.lift le2 p2
  obtain rfl : i = i' := r2
  refine ⟨He, c2, h2, env, rfl, wf2, (re.mono le1).mono le2, Post.bind (Rl1 := RO) p2 fun j h3 c3 j' le3 wf3 r3 p3 => ?_⟩
  obtain rfl : j = j' := r3
  exact prim_sl c3 h3 x u i j Q wf3 (RelR.mono le3 (RelR.mono le2 r1.1)) (PostE.lift le3 p3)
/-! ### dicts -/
theorem kv_keys {c : Cfg} {k : Key} : ∀ {l : List (Key × D)} {vs : List (Key × V)}, RelKv X.K c l vs → (l.any fun kv => decide (kv.1 = k)) = (vs.any fun kv => decide (kv.1 = k))
  | [], vs, h => by unfold RelKv at h; subst h; rfl
  | (j, d) :: l, vs, h => by
    unfold RelKv at h
    obtain ⟨v, r, rfl, h1, h2⟩ := h
    simp only [List.any_cons, kv_keys h2]
theorem kv_look {c : Cfg} {k : Key} : ∀ {l : List (Key × D)} {vs : List (Key × V)} {d : D}, RelKv X.K c l vs → dLook l k = some d → ∃ v, valV vs k = some v ∧ RelD X.K c d v
  | [], vs, d, h, e => by simp [dLook] at e
  | (j, d') :: l, vs, d, h, e => by
    unfold RelKv at h
    obtain ⟨v, r, rfl, h1, h2⟩ := h
    by_cases hj : j = k
    · have e' : some d' = some d := by rw [← e]; simp [dLook, List.find?_cons, hj]
      cases e'
      exact ⟨v, valV_pos (p := (j, v)) hj, h1⟩
    · have e' : dLook l k = some d := by rw [← e]; simp [dLook, List.find?_cons, hj]
      obtain ⟨w, g1, g2⟩ := kv_look h2 e'
      exact ⟨w, by rw [valV_neg (p := (j, v)) hj]; exact g1, g2⟩
theorem kv_map {c : Cfg} {k : Key} {d : D} {v : V} (hd : RelD X.K c d v) : ∀ {l : List (Key × D)} {vs : List (Key × V)}, RelKv X.K c l vs → RelKv X.K c (l.map fun kv => if kv.1 = k then (kv.1, d) else kv) (vs.map fun kv => if kv.1 = k then (kv.1, v) else kv)
  | [], vs, h => by unfold RelKv at h; subst h; simp [RelKv]
  | (j, d') :: l, vs, h => by
    unfold RelKv at h
    obtain ⟨u, r, rfl, h1, h2⟩ := h
    rw [List.map_cons, List.map_cons]
    by_cases hj : j = k
    · simp only [hj, if_true]
      unfold RelKv
      exact ⟨v, _, rfl, hd, kv_map hd h2⟩
    · simp only [hj, if_false]
      unfold RelKv
      exact ⟨u, _, rfl, h1, kv_map hd h2⟩
theorem kv_snoc {c : Cfg} {k : Key} {d : D} {v : V} (hd : RelD X.K c d v) : ∀ {l : List (Key × D)} {vs : List (Key × V)}, RelKv X.K c l vs → RelKv X.K c (l ++ [(k, d)]) (vs ++ [(k, v)])
  | [], vs, h => by
    unfold RelKv at h; subst h
    show RelKv X.K c [(k, d)] [(k, v)]
    unfold RelKv
    exact ⟨v, [], rfl, hd, by unfold RelKv; rfl⟩
  | (j, d') :: l, vs, h => by
    unfold RelKv at h
    obtain ⟨u, r, rfl, h1, h2⟩ := h
    show RelKv X.K c ((j, d') :: (l ++ [(k, d)])) ((j, u) :: (r ++ [(k, v)]))
    unfold RelKv
    exact ⟨u, _, rfl, h1, kv_snoc hd h2⟩
theorem kv_put {c : Cfg} {k : Key} {d : D} {v : V} {l : List (Key × D)} {vs : List (Key × V)} (h : RelKv X.K c l vs) (hd : RelD X.K c d v) : RelKv X.K c (dPut l k d) (putK vs k v) := by
  unfold dPut putK
  rw [kv_keys h]
  split
  · exact kv_map hd h
  · exact kv_snoc hd h
theorem kv_length {c : Cfg} : ∀ {l : List (Key × D)} {vs : List (Key × V)}, RelKv X.K c l vs → l.length = vs.length
  | [], vs, h => by unfold RelKv at h; subst h; rfl
  | (j, d) :: l, vs, h => by
    unfold RelKv at h
    obtain ⟨v, r, rfl, h1, h2⟩ := h
    simp [kv_length h2]
theorem kv_zip {c : Cfg} : ∀ {ks : List Key} {ds : List D} {vs : List V}, RelDs X.K c ds vs → RelKv X.K c (ks.zip ds) (ks.zip vs)
  | [], ds, vs, h => by simp [RelKv]
  | k :: ks, [], vs, h => by unfold RelDs at h; subst h; simp [RelKv]
  | k :: ks, d :: ds, vs, h => by
    unfold RelDs at h
    obtain ⟨v, r, rfl, h1, h2⟩ := h
    show RelKv X.K c ((k, d) :: ks.zip ds) ((k, v) :: ks.zip r)
    unfold RelKv
    exact ⟨v, _, rfl, h1, kv_zip h2⟩
theorem key_rel {c : Cfg} {d : D} {v : V} {k : Key} (h : RelD X.K c d v) (e : keyOf d = some k) : v = kV k := by
  cases d with
  | int i => unfold keyOf at e; cases e; unfold RelD at h; exact h
  | str i => unfold keyOf at e; cases e; unfold RelD at h; exact h
  | _ => unfold keyOf at e; cases e
theorem dct_rel {c : Cfg} {h : Hh} {x : R} {v : V} {l : List (Key × D)} (wf : WF X.K c h) (hr : RelR X.K c x v) (e : dctOf h x = some l) : ∃ a kvs, v = .ref a ∧ c.H a = some (.dK kvs) ∧ RelKv X.K c l kvs := by
  unfold dctOf at e
  split at e
  · rename_i n
    split at e
    · rename_i l' hl
      cases e
      have hr' : RelD X.K c (.ref n) v := hr
      unfold RelD at hr'
      obtain ⟨kvs, g1, g2⟩ := wf.obj n _ hl
      exact ⟨_, kvs, hr'.2, g1, g2⟩
    · cases e
  · cases e
theorem prim_dget (c : Cfg) (h : Hh) (x y : R) (u v : V) (Q : VK) (wf : WF X.K c h) (r1 : RelR X.K c x u) (r2 : RelR X.K c y v) (p : PostE X.K EW c Q (Res.of h ((dgetF h x y).map .dat))) : ∃ a w, u = .ref a ∧ DGet c.H a v (some w) ∧ Q w c.H := by
  cases e : dgetF h x y with
  | none => rw [e] at p; exact False.elim p
  | some d =>
    rw [e] at p
    unfold dgetF at e
    split at e
    · rename_i l k e1
      obtain ⟨j, e2, e3⟩ := Option.bind_eq_some_iff.mp e
      obtain ⟨a, kvs, rfl, g1, g2⟩ := dct_rel wf r1 e1
      obtain ⟨w, g3, g4⟩ := kv_look g2 e3
      rw [key_rel r2 e2]
      exact ⟨a, w, rfl, by rw [← g3]; exact DGet.k g1, PostE.here wf p g4⟩
    · cases e
theorem sim_dget (hu : X.A.units + 200 < cLine) {a b : Expr} {ma mb : E} {pos : Pos} (ha : PE X a (tE X.K EW C G ma)) (hb : PE X b (tE X.K EW C G mb)) (hs : NoSl b := by exact fun _ _ => rfl) : PE X (.Subscript a b pos) (tE X.K EW C G (.dget ma mb)) :=
  (pe_dget (by omega) ha hb hs).imp (two_red (r := fun u v H Q => ∃ a w, u = .ref a ∧ DGet H a v (some w) ∧ Q w H) (f := fun h x y => (dgetF h x y).map .dat) (fun _ _ => by conv => lhs; unfold evalE) prim_dget)
/-- an object that nobody else has is written -/
theorem any_sta {c : Cfg} {a : Addr} {o ho : HO} (h1 : c.H a = some o) (ht : ∀ xs, o ≠ .tup xs) (hf : ∀ ob u, o ≠ .frz ob u) (h2 : ¬ c.F a) (hx1 : ∀ φ, o ≠ .ext φ := by intro _ z; cases z) (hx2 : ∀ fs, o ≠ .xd fs := by intro _ z; cases z) : Sta c (c.put a ho) := by
  refine ⟨Nat.le_refl _, fun _ _ => rfl, fun _ h => h, fun x o' hF hx => ?_, fun x xs hx => ?_, fun x o' u hx => ?_, fun x φ hx => ?_, fun x fs hx => ?_⟩
  · show upd c.H a _ x = _
    rw [upd_ne (fun e => h2 (by rw [← e]; exact hF))]; exact hx
  · show upd c.H a _ x = _
    rw [upd_ne (fun e => by rw [e, h1] at hx; exact ht _ (Option.some.inj hx))]; exact hx
  · show upd c.H a _ x = _
    rw [upd_ne (fun e => by rw [e, h1] at hx; exact hf _ _ (Option.some.inj hx))]; exact hx
  · show upd c.H a _ x = _
    rw [upd_ne (fun e => by rw [e, h1] at hx; exact hx1 _ (Option.some.inj hx))]; exact hx
  · show upd c.H a _ x = _
    rw [upd_ne (fun e => by rw [e, h1] at hx; exact hx2 _ (Option.some.inj hx))]; exact hx
theorem any_le {c c0 : Cfg} (le : Le c0 c) {a : Addr} {o ho : HO} (h0 : c0.H a = none) (h1 : c.H a = some o) (ht : ∀ xs, o ≠ .tup xs) (hf : ∀ ob u, o ≠ .frz ob u) (h2 : ¬ c.F a) (hx1 : ∀ φ, o ≠ .ext φ := by intro _ z; cases z) (hx2 : ∀ fs, o ≠ .xd fs := by intro _ z; cases z) : Le c0 (c.put a ho) := by
  have st := any_sta (ho := ho) h1 ht hf h2 hx1 hx2
  refine ⟨le.toSta.trans st, le.newF, le.newR, fun x o' hx hr nt => ?_, fun x hx => ?_⟩
  · show upd c.H a _ x = _
    rw [upd_ne (fun e => by rw [e, h0] at hx; cases hx)]
    exact le.keep x o' hx hr nt
  · show upd c.H a _ x ≠ _
    by_cases e : x = a
    · rw [e, upd_same]; simp
    · rw [upd_ne e]; exact le.stay x hx
theorem any_wf {c : Cfg} {h : Hh} (wf : WF X.K c h) {a : Addr} {o ho : HO} (h1 : c.H a = some o) (ht : ∀ xs, o ≠ .tup xs) (hf : ∀ ob u, o ≠ .frz ob u) (h2 : ¬ c.F a) (h3 : ∀ k, k < c.n → c.r k ≠ a)
    (t1 : ∀ ps, o ≠ .tbl ps := by intro _ z; cases z) (t2 : ∀ φ, o ≠ .ext φ := by intro _ z; cases z) (t3 : ∀ fs, o ≠ .xd fs := by intro _ z; cases z) (no : ∀ ps, ho ≠ .tbl ps := by intro _ z; cases z) : WF X.K (c.put a ho) h := by
  have st := any_sta (ho := ho) h1 ht hf h2 t2 t3
  refine ⟨wf.tabs.upd (fun ps => by rw [h1]; exact fun z => t1 ps (Option.some.inj z)) (fun ps => by rw [h1]; exact fun z => t2 ps (Option.some.inj z)) no, wf.sz, fun k o' hk => ?_, wf.inj, wf.nF, fun x hx => ?_⟩
  · have hk' : k < c.n := by rw [wf.sz]; exact (List.getElem?_eq_some_iff.mp hk).1
    have e : (c.put a ho).H ((c.put a ho).r k) = c.H (c.r k) := upd_ne (h3 k hk')
    rw [e]
    exact RelO.mono st _ _ (wf.obj k o' hk)
  · obtain ⟨us, q⟩ := wf.fl x hx
    exact ⟨us, st.fls x _ hx q⟩
/-- the readings of a display's pairs -/
def trsOf (K : PySem.W.Frag) (EW : EWish) (C : Calls') (G : Str → Option D) : List Key → Es → List (TE × TE)
  | k :: ks, .cons m ms => (tC (kV k), tE K EW C G m) :: trsOf K EW C G ks ms
  | _, _ => []
theorem merge_nodup : ∀ (more kvs : List (Key × V)), ((kvs ++ more).map (·.1)).Nodup → mergeK kvs more = kvs ++ more
  | [], kvs, _ => by simp [mergeK]
  | (k, v) :: more, kvs, h => by
    have hn : valV kvs k = none := by
      have : k ∉ kvs.map (·.1) := by
        intro hk
        rw [List.map_append, List.map_cons] at h
        have := List.nodup_append.mp h
        exact this.2.2 k hk k (by simp) rfl
      unfold valV
      rw [Option.map_eq_none_iff, List.find?_eq_none]
      intro p hp
      simp only [decide_eq_true_eq]
      exact fun e => this (by rw [← e]; exact List.mem_map_of_mem hp)
    show mergeK (putK kvs k v) more = _
    rw [putK_new v hn, merge_nodup more (kvs ++ [(k, v)]) (by simpa using h)]
    simp
def pairsOf (ks : List Key) (vs : List V) : List (V × V) := (ks.zip vs).map fun kv => (kV kv.1, kv.2)
theorem pairs_red : ∀ (ks : List Key) (ms : Es), ms.len = ks.length → ∀ (Qf : List (V × V) → Hp → Prop) (He : Hp) (c : Cfg) (h : Hh) (env : Env') (σ : L2.St), WF X.K c h → RelEnv X.K He c env σ →
    Post X.K EW c (RA X.K) (fun vs H => Qf (pairsOf ks vs) H) (evalEs C G ms env h) → tPairs (trsOf X.K EW C G ks ms) σ c.H Qf
  | [], .nil, _, Qf, He, c, h, env, σ, wf, re, p => by
    unfold evalEs at p
    exact p c [] (Le.refl c) wf RelDs.nil
  | [], .cons _ _, hl, _, _, _, _, _, _, _, _, _ => by simp [Es.len] at hl
  | _ :: _, .nil, hl, _, _, _, _, _, _, _, _, _ => by simp [Es.len] at hl
  | k :: ks, .cons m ms, hl, Qf, He, c, h, env, σ, wf, re, p => by
    unfold evalEs at p
    refine ⟨He, c, h, env, rfl, wf, re, p.bind fun x h1 c1 u le1 wf1 r1 p1 => ?_⟩
    cases e : x.fz with
    | none => rw [e] at p1; exact False.elim p1
    | some d =>
      rw [e] at p1
      obtain ⟨c2, eH, le2, st2, wf2, r2⟩ := freeze_ans le1 wf1 r1 e
      have p2 := Post.lift le2 (fun _ _ _ h => h) p1
      have hl' : ms.len = ks.length := by simpa [Es.len] using hl
      have p3 : Post X.K EW c2 (RA X.K) (fun vs H => Qf ((kV k, u) :: pairsOf ks vs) H) (evalEs C G ms env h1) := Post.bind (Rl1 := RA X.K) p2 fun ds h2 c3 vs le3 wf3 r3 p3 => p3 c3 (u :: vs) le3 wf3 (RelDs.cons (RelD.mono le3.toSta _ _ r2) r3)
      rw [← eH]
      exact pairs_red ks ms hl' (fun ps H => Qf ((kV k, u) :: ps) H) He c2 h1 env σ wf2 (re.mono le2) p3
theorem zip_fst_sub : ∀ (ks : List Key) (vs : List V), ((ks.zip vs).map (·.1)).Sublist ks
  | [], _ => by simp
  | k :: ks, [] => by simp
  | k :: ks, v :: vs => by
    show (k :: (ks.zip vs).map (·.1)).Sublist (k :: ks)
    exact (zip_fst_sub ks vs).cons_cons k
theorem sim_dct {keys : List (Option Expr)} {values : List Expr} {ks : List Key} {ms : Es} {pos : Pos} (hp : PPs X pos keys values (trsOf X.K EW C G ks ms)) (hall : keys.all (·.isSome) = true := by rfl) (hl : keys.length = values.length := by rfl) (h0 : keys ≠ [] := by exact fun z => by cases z)
    (h15 : keys.length ≤ 15 := by decide) (hn : ms.len = ks.length := by rfl) : PE X (.Dict keys values pos) (tE X.K EW C G (.dct ks ms)) := (pe_disp hp hall hl h0 h15).imp fun σ H Q w => by
  obtain ⟨He, c, h, env, rfl, wf, re, p⟩ := w
  unfold evalE at p
  intro a ha
  have le0 := put_le wf ha (.dK [])
  have wf0 := put_wf wf ha (.dK [])
  refine pairs_red ks ms hn _ He (c.put a (.dK [])) h env σ wf0 (re.mono le0) (Post.bind2 (Rl1 := RA X.K) p le0 fun ds h1 c1 vs le1 wf1 r1 p1 => ?_)
  have na : ∀ k, k < c.n → c.r k ≠ a := fun k hk e => wf.some hk (by rw [e]; exact ha)
  have h1a : c1.H a = some (.dK []) := le1.keep a _ upd_same na (fun _ z => by cases z)
  have nF : ¬ c1.F a := fun z => by
    obtain ⟨us, q⟩ := wf1.fl a z
    rw [h1a] at q; cases q
  have nr : ∀ k, k < c1.n → c1.r k ≠ a := fun k hk e => by
    by_cases hk2 : k < c.n
    · have := le1.rho k hk2
      rw [this] at e
      exact na k hk2 e
    · have z := le1.newR k (Nat.le_of_not_lt hk2) hk
      rw [e] at z
      have : (c.put a (.dK [])).H a = some (.dK []) := upd_same
      rw [this] at z; cases z
  split at p1
  · rename_i hz
    have em : mergeK [] (ks.zip vs) = ks.zip vs := merge_nodup (ks.zip vs) [] (by
      show ((ks.zip vs).map (·.1)).Nodup
      exact hz.2.sublist (zip_fst_sub ks vs))
    refine ⟨h1a, ks.zip vs, rfl, by rw [List.length_zip]; omega, ?_⟩
    rw [em]
    have le01 : Le c c1 := le0.trans le1
    have st2 := any_sta (ho := .dK (ks.zip vs)) h1a (fun _ z => by cases z) (fun _ _ z => by cases z) nF
    have le2 := any_le (ho := .dK (ks.zip vs)) le01 ha h1a (fun _ z => by cases z) (fun _ _ z => by cases z) nF
    have wf2 := any_wf (ho := .dK (ks.zip vs)) wf1 h1a (fun _ z => by cases z) (fun _ _ z => by cases z) nF nr
    have wf3 := grow_wf (a := a) (o := .dct (ks.zip ds)) wf2 ⟨ks.zip vs, upd_same, kv_zip (RelDs.mono st2 _ _ r1)⟩ nF nr
    refine p1 _ (.ref a) (grow_le le2 ha) wf3 ⟨?_, True.intro⟩
    show RelD X.K _ (.ref _) _
    unfold RelD
    have e : (c1.put a (.dK (ks.zip vs))).n = h1.length := wf2.sz
    rw [← e]
    exact ⟨Nat.lt_succ_self _, by rw [grow_n]⟩
  · exact False.elim p1
theorem sim_dct0 {pos : Pos} : PE X (.Dict [] [] pos) (tE X.K EW C G (.dct [] .nil)) := PE.imp pe_dnewK fun σ H Q w => by
  obtain ⟨He, c, h, env, rfl, wf, re, p⟩ := w
  unfold evalE evalEs at p
  intro a ha
  have le := put_le wf ha (.dK [])
  have wf2 := put_wf wf ha (.dK [])
  have nF : ¬ (c.put a (.dK [])).F a := fun z => by
    obtain ⟨us, q⟩ := wf.fl a z
    rw [ha] at q; cases q
  have nr : ∀ k, k < c.n → c.r k ≠ a := fun k hk e => wf.some hk (by rw [e]; exact ha)
  have wf3 := grow_wf (a := a) (o := .dct []) wf2 ⟨[], upd_same, by unfold RelKv; rfl⟩ nF nr
  refine p _ (.ref a) (grow_le le ha) wf3 ⟨?_, True.intro⟩
  show RelD X.K _ (.ref _) _
  unfold RelD
  have e : (c.put a (.dK [])).n = h.length := wf2.sz
  rw [← e]
  exact ⟨Nat.lt_succ_self _, by rw [grow_n]⟩
/-! ### methods of texts -/
def MthPrim (X : Cx) (EW : EWish) (m : Mth) (r : V → List V → Hp → VK → Prop) : Prop :=
  ∀ (c : Cfg) (h : Hh) (a : Str) (e : D) (v : V) (Q : VK), WF X.K c h → RelD X.K c e v → PostE X.K EW c Q (Res.of h (mthF m a [e])) → r (.str a) [v] c.H Q
theorem mth_red {m : Mth} {r : V → List V → Hp → VK → Prop} (pr : MthPrim X EW m r) {mo me : E} : ∀ σ H Q, tE X.K EW C G (.mth m mo (.cons me .nil)) σ H Q → tM1 r (tE X.K EW C G mo) (tE X.K EW C G me) σ H Q := fun σ H Q w => by
  obtain ⟨He, c, h, env, rfl, wf, re, p⟩ := w
  unfold evalE at p
  refine ⟨He, c, h, env, rfl, wf, re, p.bind fun x h1 c1 u le1 wf1 r1 p1 => ?_⟩
  replace p1 := PostE.lift le1 p1
  split at p1
  · rename_i a
    have q : RelD X.K c1 (.str a) u := r1.1
    unfold RelD at q
    subst q
    refine ⟨⟨a, rfl⟩, ?_⟩
    unfold evalEs evalEs at p1
    refine ⟨He, c1, h1, env, rfl, wf1, re.mono le1, ?_⟩
    cases q1 : evalE C G me env h1 with
    | bad => rw [q1] at p1; exact p1
    | ex y h2 => rw [q1] at p1; exact p1
    | ok y h2 =>
      rw [q1] at p1
      intro c2 v le2 wf2 r2
      simp only [Res.bind] at p1
      cases e : y.fz with
      | none => rw [e] at p1; exact False.elim p1
      | some d =>
        rw [e] at p1
        obtain ⟨c3, eH, le3, st3, wf3, r3⟩ := freeze_ans le2 wf2 r2 e
        rw [← eH]
        exact pr c3 h2 a d v Q wf3 r3 (PostE.lift le3 p1)
  · exact False.elim p1
theorem strs_rel {c : Cfg} : ∀ {l : List D} {vs : List V} {ys : List Str}, RelDs X.K c l vs → strsOf l = some ys → vs = ys.map V.str
  | [], vs, bs, h, e => by unfold RelDs at h; unfold strsOf at e; cases e; exact h
  | d :: l, vs, bs, h, e => by
    unfold RelDs at h
    obtain ⟨v, r, rfl, h1, h2⟩ := h
    cases d with
    | str b =>
      unfold strsOf at e
      cases q : strsOf l with
      | none => rw [q] at e; cases e
      | some bs' =>
        rw [q] at e; cases e
        unfold RelD at h1
        rw [h1, strs_rel h2 q] <;> rfl
    | _ => unfold strsOf at e; cases e
theorem rel_strs {c : Cfg} : ∀ (ys : List Str), RelDs X.K c (ys.map .str) (ys.map V.str)
  | [] => RelDs.nil
  | y :: ys => RelDs.cons (by unfold RelD; rfl) (rel_strs ys)
theorem sim_split {o e : Expr} {mo me : E} {apos pos : Pos} (ho : PE X o (tE X.K EW C G mo)) (he : PE X e (tE X.K EW C G me)) (hs : starEach [e] X.env = [(false, eval e X.env)] := by rfl)
    (hbase : attributeBase o "split" X.env (eval o X.env) = eval o X.env := by rfl) (hline : (apos.endLine == pos.line) = true := by rfl) : PE X (.Call (.Attribute o "split" apos) [e] [] pos) (tE X.K EW C G (.mth .split mo (.cons me .nil))) :=
  PE.imp (pe_split ho he hs hbase hline) (mth_red fun c h a d v Q wf r p => by
    replace p : PostE X.K EW c Q (Res.of h (splitF a [d])) := p
    unfold splitF at p
    split at p
    · rename_i b hb
      cases hb
      split at p
      · rename_i hz
        unfold RelD at r
        subst r
        exact ⟨a, b, rfl, rfl, hz.1, hz.2, fun q hq => PostE.newL wf hq (rel_strs _) (by assumption)⟩
      · exact False.elim p
    · exact False.elim p)
theorem sim_index {o e : Expr} {mo me : E} {apos pos : Pos} (ho : PE X o (tE X.K EW C G mo)) (he : PE X e (tE X.K EW C G me)) (hs : starEach [e] X.env = [(false, eval e X.env)] := by rfl)
    (hbase : attributeBase o "index" X.env (eval o X.env) = eval o X.env := by rfl) (hline : (apos.endLine == pos.line) = true := by rfl) : PE X (.Call (.Attribute o "index" apos) [e] [] pos) (tE X.K EW C G (.mth .index mo (.cons me .nil))) :=
  PE.imp (pe_m1 PySem.F.slot_str_index PySem.F.type_str_index mt_sindex ho he hs hbase hline) (mth_red fun c h a d v Q wf r p => by
    replace p : PostE X.K EW c Q (Res.of h (indexF a [d])) := p
    unfold indexF at p
    split at p
    · rename_i b hb
      cases hb
      split at p
      · rename_i i rest e
        unfold RelD at r
        subst r
        exact ⟨a, b, i, rest, rfl, rfl, e, PostE.here wf p relInt⟩
      · exact False.elim p
    · exact False.elim p)
theorem sim_join {o e : Expr} {mo me : E} {apos pos : Pos} (ho : PE X o (tE X.K EW C G mo)) (he : PE X e (tE X.K EW C G me)) (hs : starEach [e] X.env = [(false, eval e X.env)] := by rfl)
    (hbase : attributeBase o "join" X.env (eval o X.env) = eval o X.env := by rfl) (hline : (apos.endLine == pos.line) = true := by rfl) : PE X (.Call (.Attribute o "join" apos) [e] [] pos) (tE X.K EW C G (.mth .join mo (.cons me .nil))) :=
  PE.imp (pe_join ho he hs hbase hline) (mth_red fun c h a d v Q wf r p => by
    replace p : PostE X.K EW c Q (Res.of h (joinF a [d])) := p
    unfold joinF at p
    split at p
    · rename_i l hb
      cases hb
      split at p
      · rename_i ys e1
        split at p
        · rename_i hz
          unfold RelD at r
          obtain ⟨b, vs, rfl, _, g1, g2⟩ := r
          exact ⟨a, b, ys, rfl, rfl, .inl (by rw [← strs_rel g2 e1]; exact .inl (.inl g1)), hz, PostE.here wf p relStr⟩
        · exact False.elim p
      · exact False.elim p
    · exact False.elim p)
/-! ### what is walked -/
/-- at each turn the next of these data, then an end, whatever else goes on -/
def ItOk (K : PySem.W.Frag) (c0 : Cfg) (ds : List D) (J : L2.It) : Prop := ∀ (c : Cfg) (h : Hh), Sta c0 c → WF K c h → ∀ i,
  (∀ d, ds[i]? = some d → J.go i c.H ∧ ∀ x H', J.yld i c.H x H' → ∃ c', c'.H = H' ∧ Le c c' ∧ WF K c' h ∧ RelD K c' d x) ∧ (ds.length ≤ i → J.stop i c.H)
end
def tI (K : PySem.W.Frag) (EW : EWish) (C : Calls') (G : Str → Option D) (it : Iter) : TI := fun σ H R => ∃ (He : Hp) (c : Cfg) (h : Hh) (env : Env'), c.H = H ∧ WF K c h ∧ RelEnv K He c env σ ∧ Post K EW c (fun c' ds J => ItOk K c' ds J) R (evalI C G it env h)
section
variable {X : Cx} {EW : EWish} {C : Calls'} {G : Str → Option D}
theorem itl_ok {c : Cfg} {h : Hh} (wf : WF X.K c h) {a : Addr} {vs : List V} {l : List D} (hF : c.F a) (h1 : c.H a = some (.lst vs)) (h2 : RelDs X.K c l vs) : ItOk X.K c l (Itl X.K a) := fun c' h' st wf' i => by
  have e1 : c'.H a = some (.lst vs) := st.fls a _ hF h1
  have sq : SqL X.K c'.H a vs := .inl (.inl e1)
  have r := RelDs.mono st _ _ h2
  refine ⟨fun d hd => ?_, fun hi => ⟨vs, sq, by rw [← RelDs.length h2]; exact hi⟩⟩
  obtain ⟨v, e2, r2⟩ := RelDs.get r hd
  refine ⟨⟨vs, v, sq, e2⟩, fun x H' y => ?_⟩
  obtain ⟨rfl, y⟩ := y
  have e3 := y vs sq
  rw [e2] at e3
  cases e3
  exact ⟨c', rfl, Le.refl c', wf', r2⟩
theorem itla_ok {c : Cfg} {h : Hh} (wf : WF X.K c h) {a : Addr} {vs : List V} {l : List D} (h1 : ArgL X.K c.H a vs) (h2 : RelDs X.K c l vs) : ItOk X.K c l (Itl X.K a) := fun c' h' st wf' i => by
  have sq : SqL X.K c'.H a vs := (argL_sta st h1).seq
  have r := RelDs.mono st _ _ h2
  refine ⟨fun d hd => ?_, fun hi => ⟨vs, sq, by rw [← RelDs.length h2]; exact hi⟩⟩
  obtain ⟨v, e2, r2⟩ := RelDs.get r hd
  refine ⟨⟨vs, v, sq, e2⟩, fun x H' y => ?_⟩
  obtain ⟨rfl, y⟩ := y
  have e3 := y vs sq
  rw [e2] at e3
  cases e3
  exact ⟨c', rfl, Le.refl c', wf', r2⟩
theorem itt_ok {c : Cfg} {h : Hh} (wf : WF X.K c h) {a : Addr} {vs : List V} {l : List D} (h1 : SqT X.K c.H a vs) (h2 : RelDs X.K c l vs) : ItOk X.K c l (Itt X.K a) := fun c' h' st wf' i => by
  have sq : SqT X.K c'.H a vs := sqT_sta st h1
  have r := RelDs.mono st _ _ h2
  refine ⟨fun d hd => ?_, fun hi => ⟨vs, sq, by rw [← RelDs.length h2]; exact hi⟩⟩
  obtain ⟨v, e2, r2⟩ := RelDs.get r hd
  refine ⟨⟨vs, v, sq, e2⟩, fun x H' y => ?_⟩
  obtain ⟨rfl, y⟩ := y
  have e3 := y vs sq
  rw [e2] at e3
  cases e3
  exact ⟨c', rfl, Le.refl c', wf', r2⟩
/-- a list's address, frozen where it is new -/
theorem itL_rel {c0 c : Cfg} {h : Hh} {x : R} {v : V} {l : List D} (le : Le c0 c) (wf : WF X.K c h) (hr : RE X.K c0 c x v) (e : itL x = some l) :
    ∃ c', c'.H = c.H ∧ Le c0 c' ∧ WF X.K c' h ∧ ∃ a, v = .ref a ∧ (∃ xs, SqL X.K c.H a xs) ∧ ∃ vs, RelDs X.K c' l vs ∧ ((c'.F a ∧ c'.H a = some (.lst vs)) ∨ ArgL X.K c'.H a vs) := by
  unfold itL at e
  split at e
  · cases e
    have q : RelD X.K c (.lst l) v := hr.1
    unfold RelD at q
    obtain ⟨a, vs, rfl, g0, g1, g2⟩ := q
    exact ⟨c, rfl, le, wf, a, rfl, ⟨vs, .inl (.inl g1)⟩, vs, g2, .inl ⟨g0, g1⟩⟩
  · cases e
    have q : RelD X.K c (.arg l) v := hr.1
    unfold RelD at q
    obtain ⟨a, vs, rfl, g1, g2⟩ := q
    exact ⟨c, rfl, le, wf, a, rfl, ⟨vs, g1.seq⟩, vs, g2, .inr g1⟩
  · cases e
    obtain ⟨⟨a, vs, rfl, g1, g2, g3, g4⟩, g5⟩ := hr
    exact ⟨c.freeze a, rfl, freeze_le le g5, freeze_wf wf g1 g3, a, rfl, ⟨vs, .inl (.inl g1)⟩, vs, RelDs.mono freeze_sta _ _ g4, .inl ⟨.inr rfl, g1⟩⟩
  · cases e
/-- a list, a tuple or a text walked -/
def iAny (K : PySem.W.Frag) (tl : TE) : TI := fun σ H R => tl σ H fun x H1 =>
  (∃ a, x = .ref a ∧ (∃ xs, SqL K H1 a xs) ∧ R (Itl K a) H1) ∨ (∃ a, x = .ref a ∧ (∃ xs, SqT K H1 a xs) ∧ R (Itt K a) H1) ∨ ∃ z, x = .str z ∧ R (Its z) H1
theorem pi_any {tg l : Expr} {tl : TE} (hl : PE X l tl) : PI X tg l (iAny X.K tl) := by
  refine ⟨fun pins s σ H R I w => thn (hl.run pins s σ H _ I w) fun v s1 ⟨x, H1, I1, r1, q1⟩ => ?_⟩
  rcases q1 with ⟨a, rfl, ⟨xs, hq⟩, q⟩ | ⟨a, rfl, ⟨xs, hq⟩, q⟩ | ⟨z, rfl, q⟩
  · cases r1
    obtain ⟨its, rv, p, hz⟩ := I1.list hq
    exact wpAny_pyIter_list p.isList (pi_one (tk := s1.toks) I1 _ (turn_list a _) ⟨_, Heap.get?_push_size _ rfl, rfl, rfl⟩ q)
  · cases r1
    obtain ⟨its, rv, p, hz⟩ := I1.tuple hq
    exact wpAny_pyIter_tuple (show s1.heap.IsTuple a its.toArray from p) (pi_one (tk := s1.toks) I1 _ (turn_tuple a _) ⟨_, Heap.get?_push_size _ rfl, rfl, rfl⟩ q)
  · obtain ⟨t, rfl⟩ := r1
    cases ha : z.cps.all (· < 128) with
    | false => exact wpAny_pyIter_wide ha (pi_one (tk := s1.toks) I1 _ (turn_str _ z t "str_iterator" (.inr rfl)) ⟨_, Heap.get?_push_size _ rfl, rfl, rfl⟩ q)
    | true => exact wpAny_pyIter_ascii ha (pi_one (tk := s1.toks) I1 _ (turn_str _ z t "str_ascii_iterator" (.inl rfl)) ⟨_, Heap.get?_push_size _ rfl, rfl, rfl⟩ q)
theorem its_ok {c : Cfg} {z : Str} : ItOk X.K c (signsL z) (Its z) := fun c' h' st wf' i => by
  have el : (signsL z).length = z.cps.size := by simp [signsL]
  refine ⟨fun d hd => ?_, fun hi => by rw [el] at hi; exact hi⟩
  have hi : i < z.cps.size := by rw [← el]; exact (List.getElem?_eq_some_iff.mp hd).1
  refine ⟨hi, fun x H' y => ?_⟩
  obtain ⟨rfl, n, e1, rfl⟩ := y
  refine ⟨c', rfl, Le.refl c', wf', ?_⟩
  have e2 : (signsL z)[i]? = some (.str ⟨#[n]⟩) := by
    unfold signsL
    rw [List.getElem?_map, Array.getElem?_toList, e1]
    rfl
  rw [e2] at hd
  cases hd
  unfold RelD
  rfl
theorem it_seq {tg l : Expr} {m : E} (hl : PE X l (tE X.K EW C G m)) : PI X tg l (tI X.K EW C G (.seq m)) := PI.imp (pi_any hl) fun σ H R' w => by
  obtain ⟨He, c, h, env, rfl, wf, re, p⟩ := w
  unfold evalI at p
  refine ⟨He, c, h, env, rfl, wf, re, p.bind fun x h1 c1 u le1 wf1 r1 p1 => ?_⟩
  cases e : itF x with
  | none => rw [e] at p1; exact False.elim p1
  | some l' =>
    rw [e] at p1
    have lst : ∀ l'', itL x = some l'' → l'' = l' → (∃ a, u = .ref a ∧ (∃ xs, SqL X.K c1.H a xs) ∧ R' (Itl X.K a) c1.H) := fun l'' e2 e3 => by
      subst e3
      obtain ⟨c2, eH, le2, wf2, a, rfl, sq, vs, g1, g2⟩ := itL_rel le1 wf1 r1 e2
      refine ⟨a, rfl, sq, ?_⟩
      rw [← eH]
      refine p1 c2 _ le2 wf2 ?_
      rcases g2 with ⟨g2, g3⟩ | g2
      · exact itl_ok wf2 g2 g3 g1
      · exact itla_ok wf2 g2 g1
    unfold itF at e
    split at e
    · cases e
      have q : RelD X.K c1 (.tup l') u := r1.1
      unfold RelD at q
      obtain ⟨a, vs, rfl, g1, g2⟩ := q
      exact .inr (.inl ⟨a, rfl, ⟨vs, g1⟩, p1 c1 _ le1 wf1 (itt_ok wf1 g1 g2)⟩)
    · cases e
      exact .inl (lst _ rfl rfl)
    · cases e
      exact .inl (lst _ rfl rfl)
    · rename_i z
      cases e
      have q : RelD X.K c1 (.str z) u := r1.1
      unfold RelD at q
      exact .inr (.inr ⟨z, q, p1 c1 _ le1 wf1 its_ok⟩)
    · cases e
      exact .inl (lst _ rfl rfl)
    · cases e
omit [Tb] in
theorem rng_get {lo : Int} {n i : Nat} {d : D} (h : (rngL lo n)[i]? = some d) : i < n ∧ d = .int (lo + (i : Nat)) := by
  unfold rngL at h
  have hi : i < n := by
    have := (List.getElem?_eq_some_iff.mp h).1
    simpa using this
  refine ⟨hi, ?_⟩
  rw [List.getElem?_map, List.getElem?_range hi] at h
  cases h
  rfl
theorem itr_ok {c : Cfg} {lo : Int} {n : Nat} : ItOk X.K c (rngL lo n) (Itr lo n) := fun c' h' st wf' i => by
  refine ⟨fun d hd => ?_, fun hi => by
    have : n ≤ i := by simpa [rngL] using hi
    exact this⟩
  obtain ⟨hi, rfl⟩ := rng_get hd
  refine ⟨hi, fun x H' y => ?_⟩
  obtain ⟨rfl, rfl⟩ := y
  exact ⟨c', rfl, Le.refl c', wf', by unfold RelD; rfl⟩
omit [Tb] in
theorem rngOk_ {j : Int} (h : rngOk j = true) : -(2 ^ 62) ≤ j ∧ j < 2 ^ 62 := by
  unfold rngOk at h
  simpa using h
theorem it_rng1 {tg a : Expr} {m : E} {p pos : Pos} (hm : X.mg "range" = none) (ha : PE X a (tE X.K EW C G m)) (hg : Gl X "range" := by rfl) (hs : starEach [a] X.env = [(false, eval a X.env)] := by rfl) :
    PI X tg (.Call (.Name "range" p) [a] [] pos) (tI X.K EW C G (.rng1 m)) := PI.imp (pi_range1 hg hm (pa_cons ha pa_nil hs) hs) fun σ H R' w => by
  obtain ⟨He, c, h, env, rfl, wf, re, p⟩ := w
  unfold evalI at p
  refine ⟨He, c, h, env, rfl, wf, re, p.bind fun x h1 c1 u le1 wf1 r1 p1 => ?_⟩
  split at p1
  · rename_i j
    split at p1
    · rename_i hj
      have hj := rngOk_ hj
      exact ⟨j, by rw [show u = V.int j from r1.1], hj.1, hj.2, p1 c1 _ le1 wf1 itr_ok⟩
    · exact False.elim p1
  · exact False.elim p1
theorem it_rng2 {tg a b : Expr} {m n : E} {p pos : Pos} (hm : X.mg "range" = none) (ha : PE X a (tE X.K EW C G m)) (hb : PE X b (tE X.K EW C G n)) (hg : Gl X "range" := by rfl)
    (hs : starEach [a, b] X.env = [(false, eval a X.env), (false, eval b X.env)] := by rfl) (hs2 : starEach [b] X.env = [(false, eval b X.env)] := by rfl) :
    PI X tg (.Call (.Name "range" p) [a, b] [] pos) (tI X.K EW C G (.rng2 m n)) := PI.imp (pi_range2 hg hm (pa_cons ha (pa_cons hb pa_nil hs2) (by rw [hs, hs2])) hs hs2) fun σ H R' w => by
  obtain ⟨He, c, h, env, rfl, wf, re, p⟩ := w
  unfold evalI at p
  refine ⟨He, c, h, env, rfl, wf, re, p.bind fun x h1 c1 u le1 wf1 r1 p1 => ?_⟩
  replace p1 := Post.lift le1 (fun _ _ _ h => h) p1
  refine ⟨He, c1, h1, env, rfl, wf1, re.mono le1, Post.bind (Rl1 := RE X.K c1) p1 fun y h2 c2 v le2 wf2 r2 p2 => ?_⟩
  split at p2
  · rename_i i j
    split at p2
    · rename_i hj
      simp only [Bool.and_eq_true] at hj
      have h1 := rngOk_ hj.1
      have h2 := rngOk_ hj.2
      exact ⟨i, j, by rw [show u = V.int i from r1.1, show v = V.int j from r2.1], ⟨h1.1, h1.2, h2.1, h2.2⟩, p2 c2 _ le2 wf2 itr_ok⟩
    · exact False.elim p2
  · exact False.elim p2
omit [Tb] in
theorem rng3_get {lo k : Int} {n i : Nat} {d : D} (h : (rng3L lo k n)[i]? = some d) : i < n ∧ d = .int (lo + (i : Nat) * k) := by
  unfold rng3L at h
  have hi : i < n := by
    have := (List.getElem?_eq_some_iff.mp h).1
    simpa using this
  refine ⟨hi, ?_⟩
  rw [List.getElem?_map, List.getElem?_range hi] at h
  cases h
  rfl
theorem itc_ok {c : Cfg} {lo k : Int} {n : Nat} : ItOk X.K c (rng3L lo k n) (Itc lo k n) := fun c' h' st wf' i => by
  refine ⟨fun d hd => ?_, fun hi => by
    have : n ≤ i := by simpa [rng3L] using hi
    exact this⟩
  obtain ⟨hi, rfl⟩ := rng3_get hd
  refine ⟨hi, fun x H' y => ?_⟩
  obtain ⟨rfl, rfl⟩ := y
  exact ⟨c', rfl, Le.refl c', wf', by unfold RelD; rfl⟩
theorem it_rng3 {tg a b d : Expr} {m n o : E} {p pos : Pos} (hm : X.mg "range" = none) (ha : PE X a (tE X.K EW C G m)) (hb : PE X b (tE X.K EW C G n)) (hd : PE X d (tE X.K EW C G o)) (hg : Gl X "range" := by rfl)
    (hs : starEach [a, b, d] X.env = (false, eval a X.env) :: starEach [b, d] X.env := by rfl) (hs2 : starEach [b, d] X.env = (false, eval b X.env) :: starEach [d] X.env := by rfl) (hs3 : starEach [d] X.env = [(false, eval d X.env)] := by rfl)
    (hpl : (backTo pos (starEach [b, d] X.env)).any (·.1) = false := by rfl) :
    PI X tg (.Call (.Name "range" p) [a, b, d] [] pos) (tI X.K EW C G (.rng3 m n o)) := PI.imp (pi_range3 hg hm (pa_cons ha (pa_cons hb (pa_cons hd pa_nil hs3) hs2) hs) hs hpl) fun σ H R' w => by
  obtain ⟨He, c, h, env, rfl, wf, re, p⟩ := w
  unfold evalI at p
  refine ⟨He, c, h, env, rfl, wf, re, p.bind fun x h1 c1 u le1 wf1 r1 p1 => ?_⟩
  replace p1 := Post.lift le1 (fun _ _ _ h => h) p1
  refine ⟨He, c1, h1, env, rfl, wf1, re.mono le1, Post.bind (Rl1 := RE X.K c1) p1 fun y h2 c2 v le2 wf2 r2 p2 => ?_⟩
  replace p2 := Post.lift le2 (fun _ _ _ h => h) p2
  refine ⟨He, c2, h2, env, rfl, wf2, (re.mono le1).mono le2, Post.bind (Rl1 := RE X.K c2) p2 fun z h3 c3 w le3 wf3 r3 p3 => ?_⟩
  unfold rng3R at p3
  split at p3
  · rename_i i j k
    split at p3
    · rename_i hj
      exact ⟨i, j, k, _, by rw [show u = V.int i from r1.1, show v = V.int j from r2.1, show w = V.int k from r3.1], ⟨hj.1, hj.2.1, hj.2.2.1, (Int.toNat_of_nonneg hj.2.2.2).symm⟩, p3 c3 _ le3 wf3 itc_ok⟩
    · exact False.elim p3
  · exact False.elim p3
omit [Tb] in
theorem enum_get : ∀ {l : List D} {k i : Nat} {d : D}, (enumL k l)[i]? = some d → ∃ e, l[i]? = some e ∧ d = .tup [.int ((k + i : Nat) : Int), e]
  | [], k, i, d, h => by simp [enumL] at h
  | e :: l, k, 0, d, h => by
    simp [enumL] at h
    subst h
    exact ⟨e, rfl, rfl⟩
  | e :: l, k, i + 1, d, h => by
    have h' : (enumL (k + 1) l)[i]? = some d := by simpa [enumL] using h
    obtain ⟨e', g1, g2⟩ := enum_get h'
    exact ⟨e', by simpa using g1, by rw [g2]; congr 3; omega⟩
omit [Tb] in
theorem enum_length : ∀ (l : List D) (k : Nat), (enumL k l).length = l.length
  | [], _ => rfl
  | _ :: l, k => by simp [enumL, enum_length l]
theorem ite_ok {c : Cfg} {a : Addr} {vs : List V} {l : List D} (h1 : ∀ c', Sta c c' → SqL X.K c'.H a vs) (h2 : RelDs X.K c l vs) : ItOk X.K c (enumL 0 l) (Ite X.K a) := fun c' h' st wf' i => by
  have sq := h1 c' st
  have r := RelDs.mono st _ _ h2
  refine ⟨fun d hd => ?_, fun hi => ⟨vs, sq, by rw [← RelDs.length h2, ← enum_length l 0]; exact hi⟩⟩
  obtain ⟨e, g1, rfl⟩ := enum_get hd
  obtain ⟨v, e2, r2⟩ := RelDs.get r g1
  refine ⟨⟨vs, v, sq, e2⟩, fun x H' y => ?_⟩
  obtain ⟨T, x', rfl, hT, rfl, y⟩ := y
  have e3 := y vs sq
  rw [e2] at e3
  cases e3
  have le := put_le wf' hT (.tup [.int (i : Nat), v])
  refine ⟨c'.put T (.tup [.int (i : Nat), v]), rfl, le, put_wf wf' hT _, ?_⟩
  unfold RelD
  refine ⟨T, _, rfl, .inl (.inl upd_same), RelDs.cons ?_ (RelDs.one (RelD.mono le.toSta _ _ r2))⟩
  rw [Nat.zero_add]
  unfold RelD
  rfl
theorem it_enum {es : List Expr} {kk : Nat} {tpos : Pos} {a : Expr} {m : E} {p pos : Pos} (hm : X.mg "enumerate" = none) (ha : PE X a (tE X.K EW C G m)) (hg : Gl X "enumerate" := by rfl) (hs : starEach [a] X.env = [(false, eval a X.env)] := by rfl) :
    PI X (.Tuple es kk tpos) (.Call (.Name "enumerate" p) [a] [] pos) (tI X.K EW C G (.enum m)) := PI.imp (pi_enum hg hm (pa_cons ha pa_nil hs) hs) fun σ H R' w => by
  obtain ⟨He, c, h, env, rfl, wf, re, p⟩ := w
  unfold evalI at p
  refine ⟨He, c, h, env, rfl, wf, re, p.bind fun x h1 c1 u le1 wf1 r1 p1 => ?_⟩
  cases e : itL x with
  | none => rw [e] at p1; exact False.elim p1
  | some l' =>
    rw [e] at p1
    obtain ⟨c2, eH, le2, wf2, a, rfl, ⟨xs, sq⟩, vs, g1, g2⟩ := itL_rel le1 wf1 r1 e
    refine ⟨a, xs, rfl, sq, ?_⟩
    show R' _ c1.H
    rw [← eH]
    refine p1 c2 _ le2 wf2 (ite_ok (vs := vs) (fun c' st => ?_) g1)
    rcases g2 with ⟨g2, g3⟩ | g2
    · exact .inl (.inl (st.fls a _ g2 g3))
    · exact (argL_sta st g2).seq
omit [Tb] in
theorem zip_get : ∀ {l m : List D} {i : Nat} {d : D}, (zipL l m)[i]? = some d → ∃ x y, l[i]? = some x ∧ m[i]? = some y ∧ d = .tup [x, y]
  | [], m, i, d, h => by simp [zipL] at h
  | x :: l, [], i, d, h => by simp [zipL] at h
  | x :: l, y :: m, 0, d, h => by
    simp [zipL] at h
    subst h
    exact ⟨x, y, rfl, rfl, rfl⟩
  | x :: l, y :: m, i + 1, d, h => by
    have h' : (zipL l m)[i]? = some d := by simpa [zipL] using h
    obtain ⟨x', y', g1, g2, g3⟩ := zip_get h'
    exact ⟨x', y', by simpa using g1, by simpa using g2, g3⟩
omit [Tb] in
theorem zip_length : ∀ (l m : List D), (zipL l m).length = min l.length m.length
  | [], m => by simp [zipL]
  | _ :: l, [] => by simp [zipL]
  | _ :: l, _ :: m => by simp [zipL, zip_length l m]
theorem itD_rel {c : Cfg} {d : D} {v : V} {l : List D} (r : RelD X.K c d v) (e : itL (.dat d) = some l) : ∃ a vs, v = .ref a ∧ RelDs X.K c l vs ∧ ((c.F a ∧ c.H a = some (.lst vs)) ∨ ArgL X.K c.H a vs) := by
  unfold itL at e
  split at e
  · rename_i l' q
    cases q
    cases e
    unfold RelD at r
    obtain ⟨a, vs, rfl, g0, g1, g2⟩ := r
    exact ⟨a, vs, rfl, g2, .inl ⟨g0, g1⟩⟩
  · rename_i l' q
    cases q
    cases e
    unfold RelD at r
    obtain ⟨a, vs, rfl, g1, g2⟩ := r
    exact ⟨a, vs, rfl, g2, .inr g1⟩
  · rename_i q
    cases q
  · cases e
theorem zip_put {c c' : Cfg} {h' : Hh} {T : Addr} {x y : D} {u v : V} (wf' : WF X.K c' h') (hT : c'.H T = none) (r1 : RelD X.K c' x u) (r2 : RelD X.K c' y v) :
    ∃ c2, c2.H = upd c'.H T (.tup [u, v]) ∧ Le c' c2 ∧ WF X.K c2 h' ∧ RelD X.K c2 (.tup [x, y]) (.ref T) := by
  have le := put_le wf' hT (.tup [u, v])
  refine ⟨c'.put T (.tup [u, v]), rfl, le, put_wf wf' hT _, ?_⟩
  unfold RelD
  exact ⟨T, _, rfl, .inl (.inl upd_same), RelDs.cons (RelD.mono le.toSta _ _ r1) (RelDs.one (RelD.mono le.toSta _ _ r2))⟩
theorem itz_ok {c : Cfg} {a b : Addr} {vs us : List V} {l m : List D} (h1 : ∀ c', Sta c c' → SqL X.K c'.H a vs) (h2 : ∀ c', Sta c c' → SqL X.K c'.H b us) (g1 : RelDs X.K c l vs) (g2 : RelDs X.K c m us) : ItOk X.K c (zipL l m) (Itz X.K a b) := fun c' h' st wf' i => by
  have s1 := h1 c' st
  have s2 := h2 c' st
  refine ⟨fun d hd => ?_, fun hi => ⟨vs, us, s1, s2, by rw [← RelDs.length g1, ← RelDs.length g2]; rw [zip_length] at hi; omega⟩⟩
  obtain ⟨x, y, e1, e2, rfl⟩ := zip_get hd
  obtain ⟨u, q1, r1⟩ := RelDs.get (RelDs.mono st _ _ g1) e1
  obtain ⟨v, q2, r2⟩ := RelDs.get (RelDs.mono st _ _ g2) e2
  refine ⟨⟨vs, us, u, v, s1, s2, q1, q2⟩, fun w H' z => ?_⟩
  obtain ⟨T, x', y', rfl, hT, rfl, z1, z2⟩ := z
  have z1 := z1 vs s1
  have z2 := z2 us s2
  rw [q1] at z1
  rw [q2] at z2
  cases z1
  cases z2
  exact zip_put (c := c) wf' hT r1 r2
theorem itzt_ok {c : Cfg} {a b : Addr} {vs us : List V} {l m : List D} (h1 : ∀ c', Sta c c' → SqT X.K c'.H a vs) (h2 : ∀ c', Sta c c' → SqT X.K c'.H b us) (g1 : RelDs X.K c l vs) (g2 : RelDs X.K c m us) : ItOk X.K c (zipL l m) (RZ.ItzT X.K a b) := fun c' h' st wf' i => by
  have s1 := h1 c' st
  have s2 := h2 c' st
  refine ⟨fun d hd => ?_, fun hi => ⟨vs, us, s1, s2, by rw [← RelDs.length g1, ← RelDs.length g2]; rw [zip_length] at hi; omega⟩⟩
  obtain ⟨x, y, e1, e2, rfl⟩ := zip_get hd
  obtain ⟨u, q1, r1⟩ := RelDs.get (RelDs.mono st _ _ g1) e1
  obtain ⟨v, q2, r2⟩ := RelDs.get (RelDs.mono st _ _ g2) e2
  refine ⟨⟨vs, us, u, v, s1, s2, q1, q2⟩, fun w H' z => ?_⟩
  obtain ⟨T, x', y', rfl, hT, rfl, z1, z2⟩ := z
  have z1 := z1 vs s1
  have z2 := z2 us s2
  rw [q1] at z1
  rw [q2] at z2
  cases z1
  cases z2
  exact zip_put (c := c) wf' hT r1 r2
theorem it_zip {es : List Expr} {kk : Nat} {tpos : Pos} {a b : Expr} {m n : E} {p pos : Pos} (hm : X.mg "zip" = none) (ha : PE X a (tE X.K EW C G m)) (hb : PE X b (tE X.K EW C G n)) (hg : Gl X "zip" := by rfl)
    (hs : starEach [a, b] X.env = (false, eval a X.env) :: starEach [b] X.env := by rfl) (hs2 : starEach [b] X.env = [(false, eval b X.env)] := by rfl) (hpl : (backTo pos (starEach [b] X.env)).any (·.1) = false := by rfl) :
    PI X (.Tuple es kk tpos) (.Call (.Name "zip" p) [a, b] [] pos) (tI X.K EW C G (.zip m n)) := PI.imp (RZ.pi_zipA hg hm (pa_cons ha (pa_cons hb pa_nil hs2) hs) hs hpl) fun σ H R' w => by
  obtain ⟨He, c, h, env, rfl, wf, re, p⟩ := w
  unfold evalI at p
  refine ⟨He, c, h, env, rfl, wf, re, p.bind fun x h1 c1 u le1 wf1 r1 p1 => ?_⟩
  replace p1 := Post.lift le1 (fun _ _ _ h => h) p1
  refine ⟨He, c1, h1, env, rfl, wf1, re.mono le1, Post.bind (Rl1 := RE X.K c1) p1 fun y h2 c2 v le2 wf2 r2 p2 => ?_⟩
  have r1' : RelR X.K c2 x u := RelR.mono le2 r1.1
  unfold zipF at p2
  split at p2
  · rename_i l m
    have q1 : RelD X.K c2 (.tup l) u := r1'
    have q2 : RelD X.K c2 (.tup m) v := r2.1
    unfold RelD at q1 q2
    obtain ⟨a1, vs, rfl, g1, g2⟩ := q1
    obtain ⟨b1, us, rfl, g3, g4⟩ := q2
    exact ⟨a1, b1, vs, us, rfl, .inr ⟨g1, g3, p2 c2 _ le2 wf2 (itzt_ok (fun c' st => sqT_sta st g1) (fun c' st => sqT_sta st g3) g2 g4)⟩⟩
  · rename_i d _
    cases e1 : itL (.dat d) with
    | none => rw [e1] at p2; exact False.elim p2
    | some l =>
      cases e2 : itL y with
      | none => rw [e1, e2] at p2; exact False.elim p2
      | some m =>
        rw [e1, e2] at p2
        obtain ⟨c3, eH, le3, wf3, b1, rfl, _, us, g3, g4⟩ := itL_rel (c0 := c1) le2 wf2 (x := y) r2 e2
        obtain ⟨a1, vs, rfl, k1, k2⟩ := itD_rel (c := c1) r1.1 e1
        have s1 : ∀ c', Sta c3 c' → SqL X.K c'.H a1 vs := fun c' st => by
          have st := le3.toSta.trans st
          rcases k2 with ⟨k2, k3⟩ | k2
          · exact .inl (.inl (st.fls _ _ k2 k3))
          · exact (argL_sta st k2).seq
        have s2 : ∀ c', Sta c3 c' → SqL X.K c'.H b1 us := fun c' st => by
          rcases g4 with ⟨g4, g5⟩ | g4
          · exact .inl (.inl (st.fls _ _ g4 g5))
          · exact (argL_sta st g4).seq
        refine ⟨a1, b1, vs, us, rfl, .inl ⟨by rw [← eH]; exact s1 c3 (Sta.refl c3), by rw [← eH]; exact s2 c3 (Sta.refl c3), ?_⟩⟩
        rw [← eH]
        exact p2 c3 _ le3 wf3 (itz_ok s1 s2 (RelDs.mono le3.toSta _ _ k1) g3)
  · exact False.elim p2
theorem rel_rng {c : Cfg} {lo : Int} : ∀ ks : List Nat, RelDs X.K c (ks.map fun k => .int (lo + (k : Nat))) (ks.map fun k => V.int (lo + (k : Nat)))
  | [] => RelDs.nil
  | k :: ks => RelDs.cons (by unfold RelD; rfl) (rel_rng ks)
theorem sim_lrng1 {a : Expr} {m : E} {p p2 pos pos2 : Pos} (hc : X.calm = true) (hm : X.mg "list" = none) (hm2 : X.mg "range" = none) (ha : PE X a (tE X.K EW C G m)) (hg : Gl X "list" := by rfl) (hg2 : Gl X "range" := by rfl)
    (na : starEach [a] X.env = (false, eval a X.env) :: starEach [] X.env := by rfl) (nb : starEach [.Call (.Name "range" p2) [a] [] pos2] X.env = (false, eval (.Call (.Name "range" p2) [a] [] pos2) X.env) :: starEach [] X.env := by rfl) :
    PE X (.Call (.Name "list" p) [.Call (.Name "range" p2) [a] [] pos2] [] pos) (tE X.K EW C G (.lrng1 m)) := (pe_listRg hc hg hm (prg_1 hg2 hm2 ha na) nb).imp fun σ H Q w => by
  obtain ⟨He, c, h, env, rfl, wf, re, p⟩ := w
  unfold evalE at p
  refine ⟨He, c, h, env, rfl, wf, re, p.bind fun x h1 c1 u le1 wf1 r1 p1 => ?_⟩
  unfold lrngR at p1
  split at p1
  · rename_i j
    split at p1
    · rename_i hj
      simp only [Bool.and_eq_true, decide_eq_true_eq] at hj
      have h1 := rngOk_ hj.1.1
      have h2 := rngOk_ hj.1.2
      refine ⟨j, r1.1, ⟨h1.1, h1.2, h2.1, h2.2, by omega⟩, fun q hq => ?_⟩
      exact PostE.newL wf1 hq (rel_rng _) (PostE.lift le1 p1)
    · exact False.elim p1
  · exact False.elim p1
theorem sim_lrng2 {a b : Expr} {m n : E} {p p2 pos pos2 : Pos} (hc : X.calm = true) (hm : X.mg "list" = none) (hm2 : X.mg "range" = none) (ha : PE X a (tE X.K EW C G m)) (hb : PE X b (tE X.K EW C G n)) (hg : Gl X "list" := by rfl) (hg2 : Gl X "range" := by rfl)
    (na : starEach [a, b] X.env = (false, eval a X.env) :: starEach [b] X.env := by rfl) (na2 : starEach [b] X.env = (false, eval b X.env) :: starEach [] X.env := by rfl) (hpl : (backTo pos2 (starEach [b] X.env)).any (·.1) = false := by rfl)
    (nb : starEach [.Call (.Name "range" p2) [a, b] [] pos2] X.env = (false, eval (.Call (.Name "range" p2) [a, b] [] pos2) X.env) :: starEach [] X.env := by rfl) :
    PE X (.Call (.Name "list" p) [.Call (.Name "range" p2) [a, b] [] pos2] [] pos) (tE X.K EW C G (.lrng2 m n)) := (pe_listRg hc hg hm (prg_2 hg2 hm2 ha hb na na2 hpl) nb).imp fun σ H Q w => by
  obtain ⟨He, c, h, env, rfl, wf, re, p⟩ := w
  unfold evalE at p
  refine ⟨He, c, h, env, rfl, wf, re, p.bind fun x h1 c1 u le1 wf1 r1 p1 => ?_⟩
  replace p1 := PostE.lift le1 p1
  refine ⟨He, c1, h1, env, rfl, wf1, re.mono le1, Post.bind (Rl1 := RE X.K c1) p1 fun y h2 c2 v le2 wf2 r2 p2 => ?_⟩
  replace p2 := PostE.lift le2 p2
  unfold lrngR2 at p2
  split at p2
  · rename_i i
    unfold lrngR at p2
    split at p2
    · rename_i j
      split at p2
      · rename_i hj
        simp only [Bool.and_eq_true, decide_eq_true_eq] at hj
        have h1 := rngOk_ hj.1.1
        have h2 := rngOk_ hj.1.2
        refine ⟨i, j, r1.1, r2.1, ⟨h1.1, h1.2, h2.1, h2.2, by omega⟩, fun q hq => ?_⟩
        exact PostE.newL wf2 hq (rel_rng _) p2
      · exact False.elim p2
    · exact False.elim p2
  · exact False.elim p2
end
end Mi
/-! Mi6: targets, comprehensions, statements. -/
namespace Mi
open PySem PySem.Spec PyProof.Rows L2
variable [Tb]

/-! ### targets -/
def gNames : List Nat → TGs
  | [] => gNil
  | i :: is => gCons (gName i) (gNames is)
def gOf (K : PySem.W.Frag) : Tg → TG
  | .nm i => gName i
  | .tp is => gTup K is.length (gNames is)
def Tg.slots : Tg → List Nat
  | .nm i => [i]
  | .tp is => is
section
variable {K : PySem.W.Frag} {c : Cfg} {He : Hp}
theorem setVs_red : ∀ {is : List Nat} {ds : List D} {vs : List V} {env env' : Env'} {σ : L2.St} {Q : L2.St → Hp → Prop}, setVs env is ds = some env' → RelDs K c ds vs → RelEnv K He c env σ →
    (∀ σ', RelEnv K He c env' σ' → (∀ ws : List Nat, (∀ i ∈ is, i ∈ ws) → wipe σ' ws = wipe σ ws) → Q σ' c.H) → (∀ (i : Nat) (x : Option V) (ws : List Nat) (σ : L2.St), i ∈ ws → wipe (σ.set i x) ws = wipe σ ws) → gNames is vs σ c.H Q
  | [], [], vs, env, env', σ, Q, e, h, re, k, _ => by
    unfold setVs at e
    cases e
    unfold RelDs at h
    exact ⟨h, k σ re fun _ _ => rfl⟩
  | i :: is, d :: ds, vs, env, env', σ, Q, e, h, re, k, wi => by
    unfold setVs at e
    unfold RelDs at h
    obtain ⟨v, r, rfl, h1, h2⟩ := h
    refine ⟨v, r, rfl, ?_⟩
    show gNames is r (σ.set i (some v)) c.H Q
    refine setVs_red e h2 (re.put i h1) (fun σ' re' hw => k σ' re' fun ws hs => ?_) wi
    rw [hw ws fun j hj => hs j (List.mem_cons_of_mem _ hj)]
    exact wi i _ ws σ (hs i List.mem_cons_self)
  | [], _ :: _, _, _, _, _, _, e, _, _, _, _ => by unfold setVs at e; cases e
  | _ :: _, [], _, _, _, _, _, e, _, _, _, _ => by unfold setVs at e; cases e
theorem wipe_get {σ : L2.St} {i : Nat} : ∀ {vs : List Nat}, i ∈ vs → i < σ.length → (wipe σ vs)[i]? = some none
  | [], h, _ => by simp at h
  | v :: vs, h, hl => by
    unfold wipe
    by_cases e : i = v
    · subst e
      rw [List.getElem?_set_self (by rw [wipe_length]; exact hl)]
    · rw [List.getElem?_set_ne (Ne.symm e)]
      exact wipe_get ((List.mem_cons.mp h).resolve_left e) hl
theorem wipe_set (i : Nat) (x : Option V) (ws : List Nat) (σ : L2.St) (h : i ∈ ws) : wipe (σ.set i x) ws = wipe σ ws := by
  apply List.ext_getElem?
  intro j
  by_cases hj : j ∈ ws
  · by_cases hl : j < σ.length
    · rw [wipe_get hj hl, wipe_get hj (by simpa using hl)]
    · rw [List.getElem?_eq_none (by rw [wipe_length]; simpa using hl), List.getElem?_eq_none (by rw [wipe_length]; omega)]
  · rw [wipe_at hj, wipe_at hj, List.getElem?_set_ne (fun e => hj (by rw [← e]; exact h))]
theorem wipe_wipe (ws : List Nat) (σ : L2.St) : wipe (wipe σ ws) ws = wipe σ ws := by
  apply List.ext_getElem?
  intro j
  by_cases hj : j ∈ ws
  · by_cases hl : j < σ.length
    · rw [wipe_get hj hl, wipe_get hj (by rw [wipe_length]; exact hl)]
    · rw [List.getElem?_eq_none (by rw [wipe_length, wipe_length]; omega), List.getElem?_eq_none (by rw [wipe_length]; omega)]
  · rw [wipe_at hj]
/-- a target gets what is walked -/
theorem bind_red {t : Tg} {d : D} {x : V} {env env' : Env'} {σ : L2.St} {Q : L2.St → Hp → Prop} (e : t.bind env d = some env') (h : RelD K c d x) (re : RelEnv K He c env σ)
    (k : ∀ σ', RelEnv K He c env' σ' → (∀ ws : List Nat, (∀ i ∈ t.slots, i ∈ ws) → wipe σ' ws = wipe σ ws) → Q σ' c.H) : gOf K t x σ c.H Q := by
  cases t with
  | nm i =>
    cases e
    exact k _ (re.put i h) fun ws hs => wipe_set i _ ws σ (hs i (by simp [Tg.slots]))
  | tp is =>
    cases d with
    | tup ds =>
      have e : setVs env is ds = some env' := e
      unfold RelD at h
      obtain ⟨a, vs, rfl, h1, h2⟩ := h
      have el : ∀ (is : List Nat) (ds : List D) (env env' : Env'), setVs env is ds = some env' → ds.length = is.length := by
        intro is
        induction is with
        | nil =>
          intro ds env env' e
          cases ds with
          | nil => rfl
          | cons d ds => unfold setVs at e; cases e
        | cons i is ih =>
          intro ds env env' e
          cases ds with
          | nil => unfold setVs at e; cases e
          | cons d ds => unfold setVs at e; simp [ih _ _ _ e]
      exact ⟨a, vs, rfl, h1, by rw [← RelDs.length h2]; exact el _ _ _ _ e, setVs_red e h2 re k wipe_set⟩
    | _ => cases e
end
section
variable {X : Cx} {EW : EWish} {C : Calls'} {G : Str → Option D}
theorem tg_name (i : Nat) {x : Str} {pos : Pos} (hN : X.N.Nodup) (hi : X.N[i]? = some x := by rfl) (hx : Loc X.env.scope x := by first | exact Or.inl rfl | exact Or.inr rfl) (hf : X.fn x = true ∨ X.env.scope.names.lookup x = some .local := by first | exact .inl rfl | exact .inr rfl) :
    PG X (.Name x pos) (gOf X.K (.nm i)) := pg_name hN hi hx hf
theorem tgs_nil : PGs X [] (gNames []) := pgs_nil
theorem tgs_cons (i : Nat) {x : Str} {pos : Pos} {es : List Expr} {is : List Nat} (hN : X.N.Nodup) (h2 : PGs X es (gNames is)) (hi : X.N[i]? = some x := by rfl) (hx : Loc X.env.scope x := by first | exact Or.inl rfl | exact Or.inr rfl) (hf : X.fn x = true ∨ X.env.scope.names.lookup x = some .local := by first | exact .inl rfl | exact .inr rfl)
    (hs : (assignEach (.Name x pos :: es) X.env).map (·.2) = assign (.Name x pos) X.env :: (assignEach es X.env).map (·.2) := by rfl) : PGs X (.Name x pos :: es) (gNames (i :: is)) := pgs_cons (pg_name hN hi hx hf) h2 hs
theorem tg_tup {es : List Expr} {is : List Nat} {k : Nat} {pos : Pos} (hc : X.calm = true) (h : PGs X es (gNames is)) (hn : (assignEach es X.env).length = is.length := by rfl) (hst : (assignEach es X.env).findIdx? (·.1) = none := by rfl) : PG X (.Tuple es k pos) (gOf X.K (.tp is)) := pg_tup hc h hn hst
/-! ### comprehensions -/
abbrev EW0 : EWish := fun _ _ _ => False
def compG (C : Calls') (G : Str → Option D) (mc me : E) (env' : Env') (h2 : Hh) : Res (Option D) := (evalE C G mc env' h2).bind fun b h3 => match b with
      | .dat (.bl true) => (evalE C G me env' h3).bind fun x h4 => match x.fz with
        | some y => .ok (some y) h4
        | none => .bad
      | .dat (.bl false) => .ok none h3
      | _ => .bad
def compF (C : Calls') (G : Str → Option D) (own : List Nat) (t : Tg) (mc me : E) (env : Env') : D → Hh → Res (Option D) := fun d h2 => match t.bind (wipeE env own) d with
    | none => .bad
    | some env' => compG C G mc me env' h2
theorem lc_red {own : List Nat} {t : Tg} {it : Iter} {mc me : E} (hsub : ∀ i ∈ t.slots, i ∈ own) : ∀ σ H Q, tE X.K EW C G (.comp own t it mc me) σ H Q → tLc (tI X.K EW C G it) (gOf X.K t) (tT X.K EW0 C G mc) (tE X.K EW0 C G me) own σ H Q := fun σ H Q w => by
  obtain ⟨He, c0, h0, env, rfl, wf0, re0, p⟩ := w
  unfold evalE at p
  have p : Post X.K EW c0 (RE X.K c0) Q ((evalI C G it env h0).bind fun ds h1 => compLoop (compF C G own t mc me env) ds [] h1) := p
  refine ⟨He, c0, h0, env, rfl, wf0, re0, p.bind fun ds h1 c1 J le1 wf1 ok p1 => ?_⟩
  intro Dd hD
  have hD0 : c0.H Dd = none := Classical.byContradiction fun q => le1.stay _ q hD
  let Iv : Nat → Hp → Prop := fun i H => ∃ (c : Cfg) (h : Hh) (acc : List D), c.H = H ∧ WF X.K c h ∧ Le c0 c ∧ Sta c1 c ∧ OwnL X.K c acc (.ref Dd) ∧ PostE X.K EW c0 Q (compLoop (compF C G own t mc me env) (ds.drop i) acc h)
  refine ⟨fun i m H => m = ds.length - i ∧ i ≤ ds.length ∧ Iv i H, ⟨ds.length, by simp, Nat.zero_le _, c1.put Dd (.lst []), h1, [], rfl, put_wf wf1 hD _, le1.trans (put_le wf1 hD _), (put_le wf1 hD _).toSta, ⟨Dd, [], rfl, upd_same, fun z => ?_, fun k hk z => ?_, RelDs.nil⟩, p1⟩, ?_⟩
  · obtain ⟨us, q⟩ := wf1.fl Dd z
    rw [hD] at q; cases q
  · exact wf1.some hk (by rw [show c1.r k = Dd from z]; exact hD)
  rintro i m H ⟨rfl, hi, c, h, acc, rfl, wf, le, sta, own1, pl⟩
  by_cases hlt : i < ds.length
  · have hd : ds[i]? = some ds[i] := List.getElem?_eq_getElem hlt
    obtain ⟨go, yl⟩ := (ok c h sta wf i).1 ds[i] hd
    refine .inr ⟨go, Iv (i + 1), fun H' q => ⟨ds.length - (i + 1), by omega, rfl, hlt, q⟩, fun x H' y => ?_⟩
    obtain ⟨c2, rfl, le2, wf2, rd⟩ := yl x H' y
    rw [List.drop_eq_getElem_cons hlt] at pl
    unfold compLoop at pl
    have ef : compF C G own t mc me env ds[i] h = match t.bind (wipeE env own) ds[i] with
      | none => .bad
      | some env' => compG C G mc me env' h := rfl
    rw [ef] at pl
    clear ef
    cases hb : t.bind (wipeE env own) ds[i] with
    | none => rw [hb] at pl; exact False.elim pl
    | some env' =>
      rw [hb] at pl
      replace pl : PostE X.K EW c0 Q (match compG C G mc me env' h with
        | .ok none h' => compLoop (compF C G own t mc me env) (ds.drop (i + 1)) acc h'
        | .ok (some x) h' => if acc.length < sizeLine then compLoop (compF C G own t mc me env) (ds.drop (i + 1)) (acc ++ [x]) h' else .bad
        | _ => .bad) := pl
      have reW : RelEnv X.K He c2 (wipeE env own) (wipe σ own) := ((re0.mono le).mono le2).wipe own
      refine bind_red hb rd reW fun σ' re' hw => ⟨(hw own hsub).trans (wipe_wipe own σ), ?_⟩
      refine ⟨He, c2, h, env', rfl, wf2, re', ?_⟩
      unfold compG at pl
      cases q1 : evalE C G mc env' h with
      | bad => rw [q1] at pl; exact False.elim pl
      | ex z hz => rw [q1] at pl; exact False.elim pl
      | ok b h3 =>
        rw [q1] at pl
        simp only [Res.bind] at pl
        intro c3 u le3 wf3 r3
        have own3 := OwnL.mono le3 (OwnL.mono le2 own1)
        have le03 := (le.trans le2).trans le3
        cases b with
        | new l => exact False.elim pl
        | bor l => exact False.elim pl
        | dat d0 =>
          cases d0 with
          | bl bb =>
            have q : RelD X.K c3 (.bl bb) u := r3.1
            unfold RelD at q
            refine ⟨bb, q, ?_⟩
            cases bb with
            | false =>
              rw [if_neg Bool.false_ne_true]
              exact ⟨c3, h3, acc, rfl, wf3, le03, (sta.trans le2.toSta).trans le3.toSta, own3, pl⟩
            | true =>
              rw [if_pos rfl]
              refine ⟨He, c3, h3, env', rfl, wf3, re'.mono le3, ?_⟩
              simp only at pl
              cases q2 : evalE C G me env' h3 with
              | bad => rw [q2] at pl; exact False.elim pl
              | ex z hz => rw [q2] at pl; exact False.elim pl
              | ok x5 h5 =>
                rw [q2] at pl
                simp only at pl
                intro c4 v le4 wf4 r4
                cases e5 : x5.fz with
                | none => rw [e5] at pl; exact False.elim pl
                | some y5 =>
                  rw [e5] at pl
                  simp only at pl
                  obtain ⟨c5, eH, le5, st5, wf5, r5⟩ := freeze_ans le4 wf4 r4 e5
                  obtain ⟨a5, vs5, ea, g1, g2, g3, g4⟩ := OwnL.mono le5 own3
                  cases ea
                  split at pl
                  · rename_i hz
                    refine ⟨vs5, by rw [← eH]; exact g1, by rw [← RelDs.length g4]; exact hz, ?_⟩
                    have st6 := own_sta (ws := vs5 ++ [v]) g1 g2
                    refine ⟨c5.put Dd (.lst (vs5 ++ [v])), h5, acc ++ [y5], by show upd c5.H Dd _ = _; rw [eH], own_wf wf5 g1 g2 g3, own_le (le03.trans le5) hD0 g1 g2, (((sta.trans le2.toSta).trans le3.toSta).trans le5.toSta).trans st6,
                      ⟨Dd, vs5 ++ [v], rfl, upd_same, g2, g3, (RelDs.mono st6 _ _ g4).append (RelDs.one (RelD.mono st6 _ _ r5))⟩, pl⟩
                  · exact False.elim pl
          | _ => exact False.elim pl
  · have e : i = ds.length := by omega
    subst e
    refine .inl ⟨(ok c h sta wf _).2 (Nat.le_refl _), ?_⟩
    rw [List.drop_length] at pl
    unfold compLoop at pl
    exact pl c (.ref Dd) le wf ⟨own1, hD0⟩
theorem sim_comp {t : Tg} {it : Iter} {mc me : E} {elt tg iter : Expr} {ifs : List Expr} {scope : Scope} {pos : Pos} (own : List (Str × Nat)) (hc : X.calm = true) (hN : X.N.Nodup) (hi : PI X tg iter (tI X.K EW C G it)) (ok : blkC X.N X.env.scope scope own = true)
    (hsub : (t.slots.all fun i => (own.map (·.2)).contains i) = true)
    (hg : ∀ (s : Shared) (H : Hp) (C : Addr) (cl : List (Str × Addr)) (fp : List Addr), PG (X.blk s H scope (compEnvC scope cl C X.env) fp) tg (gOf X.K t))
    (ht : ∀ (s : Shared) (H : Hp) (C' : Addr) (cl : List (Str × Addr)) (fp : List Addr), PTs (X.blk s H scope (compEnvC scope cl C' X.env) fp) ifs (tT X.K EW0 C G mc))
    (he : ∀ (s : Shared) (H : Hp) (C' : Addr) (cl : List (Str × Addr)) (fp : List Addr), PE (X.blk s H scope (compEnvC scope cl C' X.env) fp) elt (tE X.K EW0 C G me)) (hs : ∀ x, foldedSetIterable iter X.env x = pure x := by intro _; rfl) :
    PE X (.ListComp elt [⟨tg, iter, ifs, 0⟩] scope pos) (tE X.K EW C G (.comp (own.map (·.2)) t it mc me)) := PE.imp (pe_lc hc hN hi (blkOk_by ok) hg ht he hs) (lc_red fun i hm => by
      have := List.all_eq_true.mp hsub i hm
      simpa using this)
theorem tsts_no : PTs X [] (tT X.K EW0 C G (.con (.bl true))) := by
  refine ⟨fun pins s σ H Q I w => ?_⟩
  refine (pts_nil (X := X)).run pins s σ H Q I ?_
  obtain ⟨He, c, h, env, rfl, wf, re, p⟩ := w
  unfold evalE at p
  obtain ⟨k, e, q⟩ := PostE.here wf p relBl
  cases e
  exact q
theorem tsts_one {e : Expr} {m : E} (h : PT X e (tT X.K EW0 C G m)) : PTs X [e] (tT X.K EW0 C G m) := pts_one h
end
end Mi
/-! Mi7: statements. -/
namespace Mi
open PySem PySem.Spec PyProof.Rows L2
variable [Tb]

/-- what follows a statement -/
def PostF (K : PySem.W.Frag) (ce c : Cfg) (D : Ends) : Fl → Prop
  | .nx env => ∀ σ, RelEnv K ce.H c env σ → D.nx σ c.H
  | .bk env => ∀ σ, RelEnv K ce.H c env σ → D.bk σ c.H
  | .ct env => ∀ σ, RelEnv K ce.H c env σ → D.ct σ c.H
  | .rt r => ∀ v, RelR K c r v → Fr ce.H r v → D.rt v c.H
def PostS (K : PySem.W.Frag) (EW : EWish) (ce c : Cfg) (D : Ends) : Res Fl → Prop
  | .bad => False
  | .ok fl h => ∀ c', Le ce c' → Sta c c' → WF K c' h → PostF K ce c' D fl
  | .ex x h => ∀ c', Le ce c' → WF K c' h → EW x c' h
section
variable (K : PySem.W.Frag) (EW : EWish) (C : Calls') (G : Str → Option D) (ce : Cfg)
def tS (s : S) : TS := fun D σ H => ∃ (c : Cfg) (h : Hh) (env : Env'), c.H = H ∧ WF K c h ∧ Le ce c ∧ RelEnv K ce.H c env σ ∧ PostS K EW ce c D (execS C G s env h)
def tSs (s : Ss) : TS := fun D σ H => ∃ (c : Cfg) (h : Hh) (env : Env'), c.H = H ∧ WF K c h ∧ Le ce c ∧ RelEnv K ce.H c env σ ∧ PostS K EW ce c D (execSs C G s env h)
end
section
variable {K : PySem.W.Frag} {EW : EWish} {ce c c1 : Cfg} {D : Ends}
theorem PostS.sta {res : Res Fl} (st : Sta c c1) (p : PostS K EW ce c D res) : PostS K EW ce c1 D res := by
  cases res with
  | bad => exact p
  | ex x h => exact p
  | ok fl h => exact fun c' l s w => p c' l (st.trans s) w
/-- an expression of a statement -/
theorem PostS.bindE {α β : Type} {res : Res α} {f : α → Hh → Res Fl} {Rl : Cfg → α → β → Prop} {Q : β → Hp → Prop} (le : Le ce c) (p : PostS K EW ce c D (res.bind f))
    (k : ∀ x h1 c1 v, Le c c1 → WF K c1 h1 → Rl c1 x v → PostS K EW ce c1 D (f x h1) → Q v c1.H) : Post K EW c Rl Q res := by
  cases res with
  | bad => exact p
  | ex x h => exact fun c' l w => p c' (le.trans l) w
  | ok x h => exact fun c' v l w r => k x h c' v l w r (PostS.sta l.toSta p)
end
section
variable {X : Cx} {EW : EWish} {C : Calls'} {G : Str → Option D} {ce : Cfg} {pos : Pos}
/-! ### blocks -/
theorem blk_nil : PSs X [] (tSs X.K EW C G ce .nil) := pss_nil.imp fun D σ H w => by
  obtain ⟨c, h, env, rfl, wf, le, re, p⟩ := w
  unfold execSs at p
  exact p c le (Sta.refl c) wf σ re
theorem blk_cons {st : Stmt} {rest : List Stmt} {m : S} {ms : Ss} (h1 : PS X st (tS X.K EW C G ce m)) (h2 : PSs X rest (tSs X.K EW C G ce ms)) : PSs X (st :: rest) (tSs X.K EW C G ce (.cons m ms)) := (pss_cons h1 h2).imp fun D σ H w => by
  obtain ⟨c, h, env, rfl, wf, le, re, p⟩ := w
  unfold execSs at p
  refine ⟨c, h, env, rfl, wf, le, re, ?_⟩
  cases q : execS C G m env h with
  | bad => rw [q] at p; exact p
  | ex x h' => rw [q] at p; exact p
  | ok fl h' =>
    rw [q] at p
    intro c' le' st' wf'
    cases fl with
    | nx env' => exact fun σ' re' => ⟨c', h', env', rfl, wf', le', re', PostS.sta st' p⟩
    | bk env' => exact p c' le' st' wf'
    | ct env' => exact p c' le' st' wf'
    | rt r => exact p c' le' st' wf'
/-- freezing an owned list is no statement of the program's -/
theorem blk_frz {rest : List Stmt} {i : Nat} {ms : Ss} (h2 : PSs X rest (tSs X.K EW C G ce ms)) : PSs X rest (tSs X.K EW C G ce (.cons (.frz i) ms)) := h2.imp fun D σ H w => by
  obtain ⟨c, h, env, rfl, wf, le, re, p⟩ := w
  unfold execSs execS at p
  cases e : env[i]? with
  | none => rw [e] at p; exact False.elim p
  | some s =>
    rw [e] at p
    cases s with
    | un => exact False.elim p
    | val d => exact False.elim p
    | own l =>
      obtain ⟨a, ea, ⟨a', vs, q, g1, g2, g3, g4⟩, hz⟩ := re.own e
      cases q
      have st := freeze_sta (c := c) (a := a)
      have hi : i < env.length := (List.getElem?_eq_some_iff.mp e).1
      have re2 : RelEnv X.K ce.H (c.freeze a) (setV env i (.lst l)) σ := by
        refine ⟨by unfold setV; simp [re.len], fun j s ej => ?_, fun j k l' m' b e1 e2 f1 f2 => ?_⟩
        · unfold setV at ej
          by_cases hj : j = i
          · subst hj
            rw [List.getElem?_set_self hi] at ej
            cases ej
            refine ⟨_, ea, .ref a, rfl, ?_⟩
            unfold RelD
            exact ⟨a, vs, rfl, .inr rfl, g1, RelDs.mono st _ _ g4⟩
          · rw [List.getElem?_set_ne (Ne.symm hj)] at ej
            obtain ⟨x, e1, e2⟩ := re.sl j s ej
            refine ⟨x, e1, ?_⟩
            cases s with
            | un => exact True.intro
            | val d => obtain ⟨v, q1, q2⟩ := e2; exact ⟨v, q1, RelD.mono st d v q2⟩
            | own l' =>
              obtain ⟨b, q1, ⟨b', us, q2, q3, q4, q5, q6⟩, q7⟩ := e2
              cases q2
              have nb : b ≠ a := fun z => by
                subst z
                exact hj (re.ap j i l' l b ej e (by rw [e1, q1]) ea)
              refine ⟨b, q1, ⟨b, us, rfl, q3, fun z => ?_, q5, RelDs.mono st _ _ q6⟩, q7⟩
              rcases z with z | z
              · exact q4 z
              · exact nb z
        · unfold setV at e1 e2
          have nj : j ≠ i := fun z => by
            subst z
            rw [List.getElem?_set_self hi] at e1; cases e1
          have nk : k ≠ i := fun z => by
            subst z
            rw [List.getElem?_set_self hi] at e2; cases e2
          rw [List.getElem?_set_ne (Ne.symm nj)] at e1
          rw [List.getElem?_set_ne (Ne.symm nk)] at e2
          exact re.ap j k l' m' b e1 e2 f1 f2
      exact ⟨c.freeze a, h, setV env i (.lst l), rfl, freeze_wf wf g1 g3, freeze_le le hz, re2, PostS.sta st p⟩
/-! ### stores -/
theorem asg_red {i : Nat} {m : E} : ∀ D σ H, tS X.K EW C G ce (.asg i m) D σ H → tAsg (tE X.K EW C G m) (gName i) D σ H := fun D σ H w => by
  obtain ⟨c, h, env, rfl, wf, le, re, p⟩ := w
  unfold execS at p
  refine ⟨ce.H, c, h, env, rfl, wf, re, PostS.bindE (Rl := RE X.K c) le p fun x h1 c1 v le1 wf1 r1 p1 => ?_⟩
  cases e : x.fz with
  | none => rw [e] at p1; exact False.elim p1
  | some d =>
    rw [e] at p1
    obtain ⟨c2, eH, le2, st2, wf2, r2⟩ := freeze_ans le1 wf1 r1 e
    show D.nx _ c1.H
    rw [← eH]
    exact p1 c2 (le.trans le2) st2 wf2 _ ((re.mono le2).put i r2)
theorem own_red {i : Nat} {m : E} : ∀ D σ H, tS X.K EW C G ce (.own i m) D σ H → tAsg (tE X.K EW C G m) (gName i) D σ H := fun D σ H w => by
  obtain ⟨c, h, env, rfl, wf, le, re, p⟩ := w
  unfold execS at p
  refine ⟨ce.H, c, h, env, rfl, wf, re, PostS.bindE (Rl := RE X.K c) le p fun x h1 c1 v le1 wf1 r1 p1 => ?_⟩
  cases x with
  | dat d => exact False.elim p1
  | bor l => exact False.elim p1
  | new l =>
    obtain ⟨ow, hf⟩ := r1
    have ow' := ow
    obtain ⟨a, vs, rfl, g1, g2, g3, g4⟩ := ow'
    have hf : c.H a = none := hf
    refine p1 c1 (le.trans le1) (Sta.refl c1) wf1 _ ((re.mono le1).putOwn i ow (Classical.byContradiction fun q => le.stay a q hf) fun j m' hj ej ea => ?_)
    obtain ⟨b, eb, ⟨b', us, q1, q2, _⟩, _⟩ := re.own ej
    cases q1
    rw [ea] at eb
    cases eb
    rw [hf] at q2; cases q2
theorem any_red {i : Nat} {m : E} : ∀ D σ H, tS X.K EW C G ce (.any i m) D σ H → tAsg (tE X.K EW C G m) (gName i) D σ H := fun D σ H w => by
  obtain ⟨c, h, env, rfl, wf, le, re, p⟩ := w
  unfold execS at p
  refine ⟨ce.H, c, h, env, rfl, wf, re, PostS.bindE (Rl := RE X.K c) le p fun x h1 c1 v le1 wf1 r1 p1 => ?_⟩
  cases x with
  | dat d => exact p1 c1 (le.trans le1) (Sta.refl c1) wf1 _ ((re.mono le1).put i r1.1)
  | bor l => exact False.elim p1
  | new l =>
    obtain ⟨ow, hf⟩ := r1
    have ow' := ow
    obtain ⟨a, vs, rfl, g1, g2, g3, g4⟩ := ow'
    have hf : c.H a = none := hf
    refine p1 c1 (le.trans le1) (Sta.refl c1) wf1 _ ((re.mono le1).putOwn i ow (Classical.byContradiction fun q => le.stay a q hf) fun j m' hj ej ea => ?_)
    obtain ⟨b, eb, ⟨b', us, q1, q2, _⟩, _⟩ := re.own ej
    cases q1
    rw [ea] at eb
    cases eb
    rw [hf] at q2; cases q2
section
variable {i : Nat} {x : Str} {e : Expr} {m : E} {px : Pos}
theorem st_asg (i : Nat) (hN : X.N.Nodup) (he : PE X e (tE X.K EW C G m)) (hi : X.N[i]? = some x := by rfl) (hx : Loc X.env.scope x := by first | exact Or.inl rfl | exact Or.inr rfl) (hs : swapsWith e (some (.Name x px)) pos.line X.env = pure false := by rfl)
    (hf : X.fn x = true ∨ X.env.scope.names.lookup x = some .local := by first | exact .inl rfl | exact .inr rfl) : PS X (.Assign [.Name x px] e pos) (tS X.K EW C G ce (.asg i m)) := (ps_set hN hi hx he hs hf).imp asg_red
theorem st_own (i : Nat) (hN : X.N.Nodup) (he : PE X e (tE X.K EW C G m)) (hi : X.N[i]? = some x := by rfl) (hx : Loc X.env.scope x := by first | exact Or.inl rfl | exact Or.inr rfl) (hs : swapsWith e (some (.Name x px)) pos.line X.env = pure false := by rfl)
    (hf : X.fn x = true ∨ X.env.scope.names.lookup x = some .local := by first | exact .inl rfl | exact .inr rfl) : PS X (.Assign [.Name x px] e pos) (tS X.K EW C G ce (.own i m)) := (ps_set hN hi hx he hs hf).imp own_red
end
theorem st_any {x : Str} {e : Expr} {m : E} {px : Pos} (i : Nat) (hN : X.N.Nodup) (he : PE X e (tE X.K EW C G m)) (hi : X.N[i]? = some x := by rfl) (hx : Loc X.env.scope x := by first | exact Or.inl rfl | exact Or.inr rfl) (hs : swapsWith e (some (.Name x px)) pos.line X.env = pure false := by rfl)
    (hf : X.fn x = true ∨ X.env.scope.names.lookup x = some .local := by first | exact .inl rfl | exact .inr rfl) : PS X (.Assign [.Name x px] e pos) (tS X.K EW C G ce (.any i m)) := (ps_set hN hi hx he hs hf).imp any_red
/-- name = [.. for ..] on one line -/
theorem st_asgC {y : Str} {py : Pos} {t : Tg} {it : Iter} {mc me : E} {elt tg iter : Expr} {ifs : List Expr} {scope : Scope} {cpos : Pos} (i : Nat) (own : List (Str × Nat)) (hc : X.calm = true) (hN : X.N.Nodup) (hi : PI X tg iter (tI X.K EW C G it)) (ok : blkC X.N X.env.scope scope own = true)
    (hsub : (t.slots.all fun i => (own.map (·.2)).contains i) = true)
    (hg : ∀ (s : Shared) (H : Hp) (C : Addr) (cl : List (Str × Addr)) (fp : List Addr), PG (X.blk s H scope (compEnvC scope cl C X.env) fp) tg (gOf X.K t))
    (ht : ∀ (s : Shared) (H : Hp) (C' : Addr) (cl : List (Str × Addr)) (fp : List Addr), PTs (X.blk s H scope (compEnvC scope cl C' X.env) fp) ifs (tT X.K EW0 C G mc))
    (he : ∀ (s : Shared) (H : Hp) (C' : Addr) (cl : List (Str × Addr)) (fp : List Addr), PE (X.blk s H scope (compEnvC scope cl C' X.env) fp) elt (tE X.K EW0 C G me))
    (hsw : swapsWith (.ListComp elt [⟨tg, iter, ifs, 0⟩] scope cpos) (some (.Name y py)) pos.line X.env = pure true) (hy : X.N[i]? = some y := by rfl) (hyl : X.env.scope.names.lookup y = some .local := by rfl) (hs : ∀ x, foldedSetIterable iter X.env x = pure x := by intro _; rfl) :
    PS X (.Assign [.Name y py] (.ListComp elt [⟨tg, iter, ifs, 0⟩] scope cpos) pos) (tS X.K EW C G ce (.asg i (.comp (own.map (·.2)) t it mc me))) := (ps_setLc hc hN hy hyl hsw hi (blkOk_by ok) hg ht he hs).imp fun D σ H w => lc_red (fun i hm => by
      have := List.all_eq_true.mp hsub i hm
      simpa using this) σ H _ (asg_red D σ H w)
theorem st_ownC {y : Str} {py : Pos} {t : Tg} {it : Iter} {mc me : E} {elt tg iter : Expr} {ifs : List Expr} {scope : Scope} {cpos : Pos} (i : Nat) (own : List (Str × Nat)) (hc : X.calm = true) (hN : X.N.Nodup) (hi : PI X tg iter (tI X.K EW C G it)) (ok : blkC X.N X.env.scope scope own = true)
    (hsub : (t.slots.all fun i => (own.map (·.2)).contains i) = true)
    (hg : ∀ (s : Shared) (H : Hp) (C : Addr) (cl : List (Str × Addr)) (fp : List Addr), PG (X.blk s H scope (compEnvC scope cl C X.env) fp) tg (gOf X.K t))
    (ht : ∀ (s : Shared) (H : Hp) (C' : Addr) (cl : List (Str × Addr)) (fp : List Addr), PTs (X.blk s H scope (compEnvC scope cl C' X.env) fp) ifs (tT X.K EW0 C G mc))
    (he : ∀ (s : Shared) (H : Hp) (C' : Addr) (cl : List (Str × Addr)) (fp : List Addr), PE (X.blk s H scope (compEnvC scope cl C' X.env) fp) elt (tE X.K EW0 C G me))
    (hsw : swapsWith (.ListComp elt [⟨tg, iter, ifs, 0⟩] scope cpos) (some (.Name y py)) pos.line X.env = pure true) (hy : X.N[i]? = some y := by rfl) (hyl : X.env.scope.names.lookup y = some .local := by rfl) (hs : ∀ x, foldedSetIterable iter X.env x = pure x := by intro _; rfl) :
    PS X (.Assign [.Name y py] (.ListComp elt [⟨tg, iter, ifs, 0⟩] scope cpos) pos) (tS X.K EW C G ce (.own i (.comp (own.map (·.2)) t it mc me))) := (ps_setLc hc hN hy hyl hsw hi (blkOk_by ok) hg ht he hs).imp fun D σ H w => lc_red (fun i hm => by
      have := List.all_eq_true.mp hsub i hm
      simpa using this) σ H _ (own_red D σ H w)
/-- a, b = .. by a tuple -/
theorem st_asgs {es : List Expr} {is : List Nat} {k : Nat} {tp : Pos} {e : Expr} {m : E} (hc : X.calm = true) (he : PE X e (tE X.K EW C G m)) (hg : PGs X es (gNames is)) (hn : (assignEach es X.env).length = is.length := by rfl) (hst : (assignEach es X.env).findIdx? (·.1) = none := by rfl)
    (hs : swapsWithSole [.Tuple es k tp] e pos.line X.env = pure false := by rfl) (hw : swappedStores [.Tuple es k tp] e X.env = pure none := by rfl) (h1 : (assignEach [.Tuple es k tp] X.env).map (·.2) = [assign (.Tuple es k tp) X.env] := by rfl) :
    PS X (.Assign [.Tuple es k tp] e pos) (tS X.K EW C G ce (.asgs is m)) := (ps_asg he (tg_tup hc hg hn hst) hs hw h1).imp fun D σ H w => by
  obtain ⟨c, h, env, rfl, wf, le, re, p⟩ := w
  unfold execS at p
  refine ⟨ce.H, c, h, env, rfl, wf, re, PostS.bindE (Rl := RE X.K c) le p fun x h1 c1 v le1 wf1 r1 p1 => ?_⟩
  cases x with
  | new l => exact False.elim p1
  | bor l => exact False.elim p1
  | dat d =>
    cases d with
    | tup ds =>
      simp only at p1
      cases e : setVs env is ds with
      | none => rw [e] at p1; exact False.elim p1
      | some env' =>
        rw [e] at p1
        exact bind_red (t := .tp is) (d := .tup ds) e r1.1 (re.mono le1) fun σ' re' _ => p1 c1 (le.trans le1) (Sta.refl c1) wf1 σ' re'
    | _ => exact False.elim p1
/-- a, b = e1, e2, both locals -/
theorem st_par {a b : Expr} {ms : Es} {x y : Str} {px py pt pt2 : Pos} {kt k2 : Nat} (i j : Nat) (hc : X.calm = true) (hN : X.N.Nodup) (hes : PA X [a, b] (tA X.K EW C G ms)) (hw : swappedStores [.Tuple [.Name x px, .Name y py] kt pt] (.Tuple [a, b] k2 pt2) X.env = pure (some [x, y]))
    (hi : X.N[i]? = some x := by rfl) (hj : X.N[j]? = some y := by rfl) (hij : i ≠ j := by decide) (hx : X.env.scope.names.lookup x = some .local := by rfl) (hy : X.env.scope.names.lookup y = some .local := by rfl)
    (hs : swapsWithSole [.Tuple [.Name x px, .Name y py] kt pt] (.Tuple [a, b] k2 pt2) pos.line X.env = pure false := by rfl) :
    PS X (.Assign [.Tuple [.Name x px, .Name y py] kt pt] (.Tuple [a, b] k2 pt2) pos) (tS X.K EW C G ce (.asgs [i, j] (.tup ms))) := (ps_par hc hN hi hj hij hx hy hes hw hs).imp fun D σ H w => by
  obtain ⟨c, h, env, rfl, wf, le, re, p⟩ := w
  unfold execS evalE at p
  refine ⟨ce.H, c, h, env, rfl, wf, re, ?_⟩
  cases q : evalEs C G ms env h with
  | bad => rw [q] at p; exact False.elim p
  | ex z hz => rw [q] at p; exact fun c' l w => p c' (le.trans l) w
  | ok ds h1 =>
    rw [q] at p
    intro c1 vs le1 wf1 r1
    simp only [Res.bind] at p
    by_cases hz : ds.length ≤ sizeLine
    · rw [if_pos hz] at p
      simp only at p
      cases e : setVs env [i, j] ds with
      | none => rw [e] at p; exact False.elim p
      | some env' =>
        rw [e] at p
        cases ds with
        | nil => unfold setVs at e; cases e
        | cons d1 ds =>
          cases ds with
          | nil => unfold setVs setVs at e; cases e
          | cons d2 ds =>
            cases ds with
            | cons d3 ds => unfold setVs setVs setVs at e; cases e
            | nil =>
              unfold setVs setVs setVs at e
              cases e
              have r1 : RelDs X.K c1 [d1, d2] vs := r1
              unfold RelDs RelDs RelDs at r1
              obtain ⟨v, r, rfl, g1, w', r', rfl, g2, rfl⟩ := r1
              exact ⟨v, w', rfl, p c1 (le.trans le1) le1.toSta wf1 _ (((re.mono le1).put i g1).put j g2)⟩
    · rw [if_neg hz] at p
      exact False.elim p
theorem sto_rel {K : PySem.W.Frag} {He : Hp} {c : Cfg} {env e1 : Env'} {σ : L2.St} {x : R} {v : V} {i : Nat} (re : RelEnv K He c env σ) (r : RelR K c x v) (e : stoR i env x = some e1)
    (hz : ∀ (a : Addr) (l : List D), x = R.new l → v = V.ref a → He a = none ∧ ∀ (j : Nat) (m : List D), env[j]? = some (Slot.own m) → σ[j]? ≠ some (some (V.ref a))) : RelEnv K He c e1 (σ.set i (some v)) := by
  cases x with
  | bor l => cases e
  | dat d => cases e; exact re.put i r
  | new l =>
    cases e
    have r' : OwnL K c l v := r
    obtain ⟨a, vs, rfl, _⟩ := id r'
    obtain ⟨z1, z2⟩ := hz a l rfl rfl
    exact re.putOwn i r' z1 fun j m _ ej => z2 j m ej
/-- a, b = e1, e2, both locals, each stored by what it is -/
theorem st_par2 {a b : Expr} {ma mb : E} {x y : Str} {px py pt pt2 : Pos} {kt k2 : Nat} (i j : Nat) (hc : X.calm = true) (hN : X.N.Nodup) (ha : PE X a (tE X.K EW C G ma)) (hb : PE X b (tE X.K EW C G mb)) (hw : swappedStores [.Tuple [.Name x px, .Name y py] kt pt] (.Tuple [a, b] k2 pt2) X.env = pure (some [x, y]))
    (hi : X.N[i]? = some x := by rfl) (hj : X.N[j]? = some y := by rfl) (hij : i ≠ j := by decide) (hx : X.env.scope.names.lookup x = some .local := by rfl) (hy : X.env.scope.names.lookup y = some .local := by rfl)
    (hs : swapsWithSole [.Tuple [.Name x px, .Name y py] kt pt] (.Tuple [a, b] k2 pt2) pos.line X.env = pure false := by rfl) (hs1 : starEach [a, b] X.env = (false, eval a X.env) :: starEach [b] X.env := by rfl) (hs2 : starEach [b] X.env = (false, eval b X.env) :: starEach [] X.env := by rfl) :
    PS X (.Assign [.Tuple [.Name x px, .Name y py] kt pt] (.Tuple [a, b] k2 pt2) pos) (tS X.K EW C G ce (.par2 i j ma mb)) := (ps_par hc hN hi hj hij hx hy (pa_cons ha (pa_cons hb pa_nil hs2) hs1) hw hs).imp fun D σ H w => by
  obtain ⟨c, h, env, rfl, wf, le, re, p⟩ := w
  unfold execS at p
  refine ⟨ce.H, c, h, env, rfl, wf, re, PostS.bindE (Rl := RE X.K c) le p fun x h1 c1 u le1 wf1 r1 p1 => ?_⟩
  refine ⟨ce.H, c1, h1, env, rfl, wf1, re.mono le1, PostS.bindE (Rl := RE X.K c1) (le.trans le1) p1 fun y h2 c2 v le2 wf2 r2 p2 => ?_⟩
  refine ⟨u, v, rfl, ?_⟩
  cases q1 : stoR i env x with
  | none => rw [q1] at p2; exact False.elim p2
  | some e1 =>
    rw [q1] at p2
    simp only [Option.bind_some] at p2
    cases q2 : stoR j e1 y with
    | none => rw [q2] at p2; exact False.elim p2
    | some e2 =>
      rw [q2] at p2
      have re1 : RelEnv X.K ce.H c1 e1 (σ.set i (some u)) := sto_rel (re.mono le1) r1.1 q1 fun a l hx hu => by
        subst hx hu
        have hf : c.H a = none := r1.2
        refine ⟨Classical.byContradiction fun q => le.stay a q hf, fun k m ek eq => ?_⟩
        obtain ⟨b, eb, ⟨b', us, z1, z2, _⟩, _⟩ := re.own ek
        cases z1
        rw [eq] at eb
        cases eb
        rw [hf] at z2; cases z2
      have re2 : RelEnv X.K ce.H c2 e2 ((σ.set i (some u)).set j (some v)) := sto_rel (re1.mono le2) r2.1 q2 fun a l hy hv => by
        subst hy hv
        have hf : c1.H a = none := r2.2
        refine ⟨Classical.byContradiction fun q => (le.trans le1).stay a q hf, fun k m ek eq => ?_⟩
        obtain ⟨b, eb, ⟨b', us, z1, z2, _⟩, _⟩ := re1.own ek
        cases z1
        rw [eq] at eb
        cases eb
        rw [hf] at z2; cases z2
      exact p2 c2 ((le.trans le1).trans le2) (Sta.refl c2) wf2 _ re2
theorem st_setL {o i e : Expr} {mo mi m : E} {pos' : Pos} (he : PE X e (tE X.K EW C G m)) (ho : PE X o (tE X.K EW C G mo)) (hi : PE X i (tE X.K EW C G mi)) (ha : ∀ v, assign (.Subscript o i pos') X.env v = (do
      let ov ← holding [v] (eval o X.env)
      let iv ← holding [v, ov] (eval i X.env)
      standAt pos'
      holding [v, ov, iv] (setItem ov iv v)
      release [v, ov, iv] []) := by intro _; rfl)
    (hs : swapsWithSole [.Subscript o i pos'] e pos.line X.env = pure false := by rfl) (hw : swappedStores [.Subscript o i pos'] e X.env = pure none := by rfl) (h1 : (assignEach [.Subscript o i pos'] X.env).map (·.2) = [assign (.Subscript o i pos') X.env] := by rfl) :
    PS X (.Assign [.Subscript o i pos'] e pos) (tS X.K EW C G ce (.setL mo mi m)) := (ps_asg he (pg_sub ho hi set_list ha) hs hw h1).imp fun D σ H w => by
  obtain ⟨c, h, env, rfl, wf, le, re, p⟩ := w
  unfold execS at p
  refine ⟨ce.H, c, h, env, rfl, wf, re, PostS.bindE (Rl := RE X.K c) le p fun x h1 c1 v le1 wf1 r1 p1 => ?_⟩
  cases e : x.fz with
  | none => rw [e] at p1; exact False.elim p1
  | some d =>
    rw [e] at p1
    obtain ⟨c2, eH, le2, st2, wf2, r2⟩ := freeze_ans le1 wf1 r1 e
    have lee := le.trans le2
    refine ⟨ce.H, c2, h1, env, eH, wf2, re.mono le2, PostS.bindE (Rl := RE X.K c2) lee (PostS.sta st2 p1) fun y h2 c3 u le3 wf3 r3 p3 => ?_⟩
    refine ⟨ce.H, c3, h2, env, rfl, wf3, (re.mono le2).mono le3, PostS.bindE (Rl := RE X.K c3) (lee.trans le3) p3 fun z h3 c4 t le4 wf4 r4 p4 => ?_⟩
    split at p4
    · rename_i n iz
      split at p4
      · rename_i l hl
        split at p4
        · rename_i j hj
          have q : RelD X.K c3 (.ref n) u := r3.1
          have q := RelD.mono le4.toSta _ _ q
          unfold RelD at q
          obtain ⟨hn, rfl⟩ := q
          obtain ⟨vs, g1, g2⟩ := wf4.obj n _ hl
          have rv := RelD.mono le4.toSta _ _ (RelD.mono le3.toSta _ _ r2)
          have lt := ref_le wf4 hn (.lst (vs.set j v))
          refine ⟨c4.r n, vs, iz, j, rfl, r4.1, g1, by rw [← RelDs.length g2]; exact hj, ?_⟩
          refine p4 (c4.put (c4.r n) (.lst (vs.set j v))) (((lee.trans le3).trans le4).trans lt) lt.toSta (ref_wf wf4 hn ⟨_, rfl, RelDs.set j g2 rv⟩) σ ((((re.mono le2).mono le3).mono le4).mono lt)
        · exact False.elim p4
      · exact False.elim p4
    · exact False.elim p4
theorem st_setD {o i e : Expr} {mo mi m : E} {pos' : Pos} (hu : X.A.units + 200 < cLine) (he : PE X e (tE X.K EW C G m)) (ho : PE X o (tE X.K EW C G mo)) (hi : PE X i (tE X.K EW C G mi)) (hs : swapsWith e (some (.Subscript o i pos')) pos.line X.env = pure false := by rfl) :
    PS X (.Assign [.Subscript o i pos'] e pos) (tS X.K EW C G ce (.setD mo mi m)) := (ps_dput (by omega) ho hi he hs).imp fun D σ H w => by
  obtain ⟨c, h, env, rfl, wf, le, re, p⟩ := w
  unfold execS at p
  refine ⟨ce.H, c, h, env, rfl, wf, re, PostS.bindE (Rl := RE X.K c) le p fun x h1 c1 v le1 wf1 r1 p1 => ?_⟩
  cases e : x.fz with
  | none => rw [e] at p1; exact False.elim p1
  | some d =>
    rw [e] at p1
    obtain ⟨c2, eH, le2, st2, wf2, r2⟩ := freeze_ans le1 wf1 r1 e
    have lee := le.trans le2
    refine ⟨ce.H, c2, h1, env, eH, wf2, re.mono le2, PostS.bindE (Rl := RE X.K c2) lee (PostS.sta st2 p1) fun y h2 c3 u le3 wf3 r3 p3 => ?_⟩
    refine ⟨ce.H, c3, h2, env, rfl, wf3, (re.mono le2).mono le3, PostS.bindE (Rl := RE X.K c3) (lee.trans le3) p3 fun z h3 c4 t le4 wf4 r4 p4 => ?_⟩
    split at p4
    · rename_i n kd
      split at p4
      · rename_i l kk hl hk
        split at p4
        · rename_i hz
          have q : RelD X.K c3 (.ref n) u := r3.1
          have q := RelD.mono le4.toSta _ _ q
          unfold RelD at q
          obtain ⟨hn, rfl⟩ := q
          obtain ⟨vs, g1, g2⟩ := wf4.obj n _ hl
          have rv := RelD.mono le4.toSta _ _ (RelD.mono le3.toSta _ _ r2)
          have lt := ref_le wf4 hn (.dK (putK vs kk v))
          refine ⟨c4.r n, upd c4.H (c4.r n) (.dK (putK vs kk v)), rfl, ?_, ?_⟩
          · rw [key_rel r4.1 hk]
            exact DPut.k g1 (by rw [← kv_length g2]; exact hz)
          · exact p4 (c4.put (c4.r n) (.dK (putK vs kk v))) (((lee.trans le3).trans le4).trans lt) lt.toSta (ref_wf wf4 hn ⟨_, rfl, kv_put g2 rv⟩) σ ((((re.mono le2).mono le3).mono le4).mono lt)
        · exact False.elim p4
      · exact False.elim p4
    · exact False.elim p4
theorem st_setOwn {x : Str} {px : Pos} {i e : Expr} {mi m : E} {pos' : Pos} (k : Nat) (he : PE X e (tE X.K EW C G m)) (hi : PE X i (tE X.K EW C G mi)) (ho : PE X (.Name x px) (tVar k)) (ha : ∀ v, assign (.Subscript (.Name x px) i pos') X.env v = (do
      let ov ← holding [v] (eval (.Name x px) X.env)
      let iv ← holding [v, ov] (eval i X.env)
      standAt pos'
      holding [v, ov, iv] (setItem ov iv v)
      release [v, ov, iv] []) := by intro _; rfl)
    (hs : swapsWithSole [.Subscript (.Name x px) i pos'] e pos.line X.env = pure false := by rfl) (hw : swappedStores [.Subscript (.Name x px) i pos'] e X.env = pure none := by rfl) (h1 : (assignEach [.Subscript (.Name x px) i pos'] X.env).map (·.2) = [assign (.Subscript (.Name x px) i pos') X.env] := by rfl) :
    PS X (.Assign [.Subscript (.Name x px) i pos'] e pos) (tS X.K EW C G ce (.setOwn k mi m)) := (ps_asg he (pg_sub ho hi set_list ha) hs hw h1).imp fun D σ H w => by
  obtain ⟨c, h, env, rfl, wf, le, re, p⟩ := w
  unfold execS at p
  refine ⟨ce.H, c, h, env, rfl, wf, re, PostS.bindE (Rl := RE X.K c) le p fun x h1 c1 v le1 wf1 r1 p1 => ?_⟩
  cases e : x.fz with
  | none => rw [e] at p1; exact False.elim p1
  | some d =>
    rw [e] at p1
    obtain ⟨c2, eH, le2, st2, wf2, r2⟩ := freeze_ans le1 wf1 r1 e
    have lee := le.trans le2
    have re2 := re.mono le2
    show tVar k σ c1.H _
    replace p1 := PostS.sta st2 p1
    simp only at p1
    cases ek : env[k]? with
    | none => rw [ek] at p1; exact False.elim p1
    | some s =>
      rw [ek] at p1
      cases s with
      | un => exact False.elim p1
      | val d' => exact False.elim p1
      | own l =>
        obtain ⟨a, ea, ow, hz⟩ := re2.own ek
        refine ⟨.ref a, ea, ?_⟩
        refine ⟨ce.H, c2, h1, env, eH, wf2, re2, PostS.bindE (Rl := RE X.K c2) lee p1 fun y h2 c3 u le3 wf3 r3 p3 => ?_⟩
        split at p3
        · rename_i z
          split at p3
          · rename_i j hj
            obtain ⟨a', vs, q, g1, g2, g3, g4⟩ := OwnL.mono le3 ow
            cases q
            have rv := RelD.mono le3.toSta _ _ r2
            have st4 := own_sta (ws := vs.set j v) g1 g2
            refine ⟨a, vs, z, j, rfl, r3.1, g1, by rw [← RelDs.length g4]; exact hj, ?_⟩
            exact p3 (c3.put a (.lst (vs.set j v))) (own_le (lee.trans le3) hz g1 g2) st4 (own_wf wf3 g1 g2 g3) σ ((re2.mono le3).write ek ea g1 g2 g3 hz (RelDs.mono st4 _ _ (RelDs.set j g4 rv)))
          · exact False.elim p3
        · exact False.elim p3
theorem st_app {x : Str} {px ap cp : Pos} {e : Expr} {m : E} (k : Nat) (he : PE X e (tE X.K EW C G m)) (ho : PE X (.Name x px) (tVar k)) (hbase : attributeBase (.Name x px) "append" X.env (eval (.Name x px) X.env) = eval (.Name x px) X.env := by rfl)
    (hfew : ((backTo cp (starEach [e] X.env)).all (fun x => !x.1) && (backToKw cp (keywordEach [] X.env)).all (fun x => x.1.isSome)
      && decide (([e] : List Expr).length + ([] : List Keyword).length + (if ([] : List Keyword).isEmpty then 0 else 1) < 30)) = true := by rfl)
    (hline : (ap.endLine == cp.line) = true := by rfl) (hs : starEach [e] X.env = (false, eval e X.env) :: starEach [] X.env := by rfl) (hplain : (backTo cp (starEach [] X.env)).any (·.1) = false := by rfl)
    (hsw : swapsWith (.Call (.Attribute (.Name x px) "append" ap) [e] [] cp) none pos.line X.env = pure false := by rfl) :
    PS X (.Expr (.Call (.Attribute (.Name x px) "append" ap) [e] [] cp) pos) (tS X.K EW C G ce (.app k m)) :=
  (ps_expr (pe_bm PySem.F.plainAttrs_list PySem.F.slot_list_append PySem.F.type_list_append mt_append ho (pa_cons he pa_nil hs) hbase hfew hline hs hplain) hsw).imp fun D σ H w => by
  obtain ⟨c, h, env, rfl, wf, le, re, p⟩ := w
  unfold execS at p
  cases ek : env[k]? with
  | none => rw [ek] at p; exact False.elim p
  | some s =>
    rw [ek] at p
    cases s with
    | un => exact False.elim p
    | val d' => exact False.elim p
    | own l =>
      obtain ⟨a, ea, ow, hz⟩ := re.own ek
      have ow' := ow
      obtain ⟨a0, vs0, q0, g0, _⟩ := ow'
      cases q0
      refine ⟨.ref a, ea, .inl ⟨rfl, vs0, .inl (.inl g0)⟩, ?_⟩
      refine ⟨ce.H, c, h, env, rfl, wf, re, PostS.bindE (Rl := RE X.K c) le p fun y h1 c1 v le1 wf1 r1 p1 => ?_⟩
      cases e1 : y.fz with
      | none => rw [e1] at p1; exact False.elim p1
      | some d =>
        rw [e1] at p1
        simp only at p1
        obtain ⟨c2, eH, le2, st2, wf2, r2⟩ := freeze_ans le1 wf1 r1 e1
        split at p1
        · rename_i hl
          obtain ⟨a', vs, q, g1, g2, g3, g4⟩ := OwnL.mono le2 ow
          cases q
          have st4 := own_sta (ws := vs ++ [v]) g1 g2
          refine ⟨a, vs, v, rfl, rfl, by rw [← eH]; exact g1, by rw [← RelDs.length g4]; exact hl, ?_⟩
          show D.nx σ (upd c1.H a (.lst (vs ++ [v])))
          rw [← eH]
          exact p1 (c2.put a (.lst (vs ++ [v]))) (own_le (le.trans le2) hz g1 g2) (st2.trans st4) (own_wf wf2 g1 g2 g3) σ ((re.mono le2).write ek ea g1 g2 g3 hz ((RelDs.mono st4 _ _ g4).append (RelDs.one (RelD.mono st4 _ _ r2))))
        · exact False.elim p1
theorem st_ext {x : Str} {px ap cp : Pos} {e : Expr} {m : E} (k : Nat) (he : PE X e (tE X.K EW C G m)) (ho : PE X (.Name x px) (tVar k)) (hbase : attributeBase (.Name x px) "extend" X.env (eval (.Name x px) X.env) = eval (.Name x px) X.env := by rfl)
    (hfew : ((backTo cp (starEach [e] X.env)).all (fun x => !x.1) && (backToKw cp (keywordEach [] X.env)).all (fun x => x.1.isSome)
      && decide (([e] : List Expr).length + ([] : List Keyword).length + (if ([] : List Keyword).isEmpty then 0 else 1) < 30)) = true := by rfl)
    (hline : (ap.endLine == cp.line) = true := by rfl) (hs : starEach [e] X.env = (false, eval e X.env) :: starEach [] X.env := by rfl) (hplain : (backTo cp (starEach [] X.env)).any (·.1) = false := by rfl)
    (hsw : swapsWith (.Call (.Attribute (.Name x px) "extend" ap) [e] [] cp) none pos.line X.env = pure false := by rfl) :
    PS X (.Expr (.Call (.Attribute (.Name x px) "extend" ap) [e] [] cp) pos) (tS X.K EW C G ce (.ext k m)) :=
  (ps_expr (pe_bm PySem.F.plainAttrs_list PySem.F.slot_list_extend PySem.F.type_list_extend mt_extend ho (pa_cons he pa_nil hs) hbase hfew hline hs hplain) hsw).imp fun D σ H w => by
  obtain ⟨c, h, env, rfl, wf, le, re, p⟩ := w
  unfold execS at p
  cases ek : env[k]? with
  | none => rw [ek] at p; exact False.elim p
  | some s =>
    rw [ek] at p
    cases s with
    | un => exact False.elim p
    | val d' => exact False.elim p
    | own l =>
      obtain ⟨a, ea, ow, hz⟩ := re.own ek
      have ow' := ow
      obtain ⟨a0, vs0, q0, g0, _⟩ := ow'
      cases q0
      refine ⟨.ref a, ea, .inl ⟨rfl, vs0, .inl (.inl g0)⟩, ?_⟩
      refine ⟨ce.H, c, h, env, rfl, wf, re, PostS.bindE (Rl := RE X.K c) le p fun y h1 c1 v le1 wf1 r1 p1 => ?_⟩
      cases e1 : lv h1 y with
      | none => rw [e1] at p1; exact False.elim p1
      | some l' =>
        rw [e1] at p1
        simp only at p1
        obtain ⟨b, ws, rfl, f1, f2⟩ := lv_rel wf1 r1.1 e1
        split at p1
        · rename_i hl
          obtain ⟨a', vs, q, g1, g2, g3, g4⟩ := OwnL.mono le1 ow
          cases q
          have st4 := own_sta (ws := vs ++ ws) g1 g2
          refine ⟨a, b, vs, ws, rfl, rfl, g1, f1, by rw [← RelDs.length g4, ← RelDs.length f2]; exact hl, ?_⟩
          exact p1 (c1.put a (.lst (vs ++ ws))) (own_le (le.trans le1) hz g1 g2) st4 (own_wf wf1 g1 g2 g3) σ ((re.mono le1).write ek ea g1 g2 g3 hz ((RelDs.mono st4 _ _ g4).append (RelDs.mono st4 _ _ f2)))
        · exact False.elim p1
theorem st_expr {e : Expr} {m : E} (he : PE X e (tE X.K EW C G m)) (hs : swapsWith e none pos.line X.env = pure false := by rfl) : PS X (.Expr e pos) (tS X.K EW C G ce (.expr m)) := (ps_expr he hs).imp fun D σ H w => by
  obtain ⟨c, h, env, rfl, wf, le, re, p⟩ := w
  unfold execS at p
  exact ⟨ce.H, c, h, env, rfl, wf, re, PostS.bindE (Rl := RE X.K c) le p fun y h1 c1 v le1 wf1 r1 p1 => p1 c1 (le.trans le1) (Sta.refl c1) wf1 σ (re.mono le1)⟩
/-! ### if, loops -/
theorem st_if {t : Expr} {a b : List Stmt} {m : E} {ma mb : Ss} (ht : PT X t (tT X.K EW C G m)) (ha : PSs X a (tSs X.K EW C G ce ma)) (hb : PSs X b (tSs X.K EW C G ce mb)) : PS X (.If t a b pos) (tS X.K EW C G ce (.ifs m ma mb)) := (ps_if ht ha hb).imp fun D σ H w => by
  obtain ⟨c, h, env, rfl, wf, le, re, p⟩ := w
  unfold execS at p
  refine ⟨ce.H, c, h, env, rfl, wf, re, PostS.bindE (Rl := RE X.K c) le p fun y h1 c1 v le1 wf1 r1 p1 => ?_⟩
  split at p1
  · have q : RelD X.K c1 (.bl true) v := r1.1
    unfold RelD at q
    refine ⟨true, q, ?_⟩
    show if true = true then _ else _
    rw [if_pos rfl]
    exact ⟨c1, h1, env, rfl, wf1, le.trans le1, re.mono le1, p1⟩
  · have q : RelD X.K c1 (.bl false) v := r1.1
    unfold RelD at q
    refine ⟨false, q, ?_⟩
    show if false = true then _ else _
    rw [if_neg Bool.false_ne_true]
    exact ⟨c1, h1, env, rfl, wf1, le.trans le1, re.mono le1, p1⟩
  · exact False.elim p1
theorem st_for {tg iter : Expr} {body : List Stmt} {t : Tg} {it : Iter} {mb : Ss} (hp : PassesOwn (model X.prog X.w) X.A X.env X.xe) (hc : X.calm = true) (hi : PI X tg iter (tI X.K EW C G it)) (hg : PG X tg (gOf X.K t)) (hb : PSs X body (tSs X.K EW C G ce mb))
    (hs : ∀ x, foldedSetIterable iter X.env x = pure x := by intro _; rfl) : PS X (.For tg iter body [] pos) (tS X.K EW C G ce (.for' t it mb)) := (ps_for hp hc hi hg hb hs).imp fun D σ H w => by
  obtain ⟨c0, h0, env0, rfl, wf0, le0, re0, p⟩ := w
  unfold execS at p
  refine ⟨ce.H, c0, h0, env0, rfl, wf0, re0, ?_⟩
  cases q : evalI C G it env0 h0 with
  | bad => rw [q] at p; exact p
  | ex x h' => rw [q] at p; exact fun c' l w => p c' (le0.trans l) w
  | ok ds h1 =>
    rw [q] at p
    intro c1 J le1 wf1 ok
    simp only [Res.bind] at p
    refine ⟨fun i m σ' H' => m = ds.length - i ∧ i ≤ ds.length ∧ ∃ (c : Cfg) (h : Hh) (env : Env'), c.H = H' ∧ WF X.K c h ∧ Le ce c ∧ Sta c1 c ∧ RelEnv X.K ce.H c env σ' ∧ PostS X.K EW ce c D (forLoop t (fun env' h' => execSs C G mb env' h') (ds.drop i) env h),
      ⟨ds.length, by simp, Nat.zero_le _, c1, h1, env0, rfl, wf1, le0.trans le1, Sta.refl c1, re0.mono le1, PostS.sta le1.toSta p⟩, ?_⟩
    rintro i m σ' H' ⟨rfl, hi, c, h, env, rfl, wf, le, sta, re, pl⟩
    by_cases hlt : i < ds.length
    · have hd : ds[i]? = some ds[i] := List.getElem?_eq_getElem hlt
      obtain ⟨go, yl⟩ := (ok c h sta wf i).1 ds[i] hd
      refine .inr ⟨go, fun σ'' H'' => i + 1 ≤ ds.length ∧ ∃ (c : Cfg) (h : Hh) (env : Env'), c.H = H'' ∧ WF X.K c h ∧ Le ce c ∧ Sta c1 c ∧ RelEnv X.K ce.H c env σ'' ∧ PostS X.K EW ce c D (forLoop t (fun env' h' => execSs C G mb env' h') (ds.drop (i + 1)) env h),
        fun σ'' H'' ⟨q1, q2⟩ => ⟨ds.length - (i + 1), by omega, rfl, q1, q2⟩, fun x H'' y => ?_⟩
      obtain ⟨c2, rfl, le2, wf2, rd⟩ := yl x H'' y
      rw [List.drop_eq_getElem_cons hlt] at pl
      unfold forLoop at pl
      cases hb : t.bind env ds[i] with
      | none => rw [hb] at pl; exact False.elim pl
      | some env1 =>
        rw [hb] at pl
        simp only at pl
        refine bind_red hb rd (re.mono le2) fun σ2 re2 _ => ?_
        refine ⟨c2, h, env1, rfl, wf2, le.trans le2, re2, ?_⟩
        have st2 := sta.trans le2.toSta
        cases q3 : execSs C G mb env1 h with
        | bad => rw [q3] at pl; exact pl
        | ex x h' => rw [q3] at pl; exact pl
        | ok fl h2 =>
          rw [q3] at pl
          intro c3 le3 st3 wf3
          cases fl with
          | nx env2 => exact fun σ3 re3 => ⟨hlt, c3, h2, env2, rfl, wf3, le3, st2.trans st3, re3, PostS.sta (le2.toSta.trans st3) pl⟩
          | ct env2 => exact fun σ3 re3 => ⟨hlt, c3, h2, env2, rfl, wf3, le3, st2.trans st3, re3, PostS.sta (le2.toSta.trans st3) pl⟩
          | bk env2 => exact fun σ3 re3 => pl c3 le3 (le2.toSta.trans st3) wf3 σ3 re3
          | rt r => exact fun v rr fr => pl c3 le3 (le2.toSta.trans st3) wf3 v rr fr
    · have e : i = ds.length := by omega
      subst e
      refine .inl ⟨(ok c h sta wf _).2 (Nat.le_refl _), ?_⟩
      rw [List.drop_length] at pl
      unfold forLoop at pl
      exact pl c le (Sta.refl c) wf σ' re
theorem st_whl {t : Expr} {body : List Stmt} {m : E} {mb : Ss} (hp : PassesOwn (model X.prog X.w) X.A X.env X.xe) (ht : PT X t (tT X.K EW C G m)) (hb : PSs X body (tSs X.K EW C G ce mb)) : PS X (.While t body [] pos) (tS X.K EW C G ce (.whl m mb)) := (ps_while hp ht hb).imp fun D σ H w => by
  obtain ⟨c0, h0, env0, rfl, wf0, le0, re0, p⟩ := w
  unfold execS at p
  refine ⟨fun n σ' H' => ∃ (c : Cfg) (h : Hh) (env : Env'), c.H = H' ∧ WF X.K c h ∧ Le ce c ∧ RelEnv X.K ce.H c env σ' ∧ PostS X.K EW ce c D (whlLoop (fun env' h' => evalE C G m env' h') (fun env' h' => execSs C G mb env' h') n env h),
    ⟨whlMost, c0, h0, env0, rfl, wf0, le0, re0, p⟩, ?_⟩
  rintro n σ' H' ⟨c, h, env, rfl, wf, le, re, pl⟩
  cases n with
  | zero => unfold whlLoop at pl; exact False.elim pl
  | succ n =>
    unfold whlLoop at pl
    refine ⟨ce.H, c, h, env, rfl, wf, re, ?_⟩
    cases q : evalE C G m env h with
    | bad => rw [q] at pl; exact pl
    | ex x h' => rw [q] at pl; exact fun c' l w => pl c' (le.trans l) w
    | ok b h1 =>
      rw [q] at pl
      intro c1 v le1 wf1 r1
      cases b with
      | new l => exact False.elim pl
      | bor l => exact False.elim pl
      | dat d =>
        cases d with
        | bl bb =>
          have q2 : RelD X.K c1 (.bl bb) v := r1.1
          unfold RelD at q2
          refine ⟨bb, q2, ?_⟩
          cases bb with
          | false =>
            rw [if_neg Bool.false_ne_true]
            exact pl c1 (le.trans le1) le1.toSta wf1 σ' (re.mono le1)
          | true =>
            rw [if_pos rfl]
            refine ⟨fun σ'' H'' => ∃ (c : Cfg) (h : Hh) (env : Env'), c.H = H'' ∧ WF X.K c h ∧ Le ce c ∧ RelEnv X.K ce.H c env σ'' ∧ PostS X.K EW ce c D (whlLoop (fun env' h' => evalE C G m env' h') (fun env' h' => execSs C G mb env' h') n env h),
              fun σ'' H'' q => ⟨n, Nat.lt_succ_self n, q⟩, c1, h1, env, rfl, wf1, le.trans le1, re.mono le1, ?_⟩
            simp only at pl
            cases q3 : execSs C G mb env h1 with
            | bad => rw [q3] at pl; exact pl
            | ex x h' => rw [q3] at pl; exact pl
            | ok fl h2 =>
              rw [q3] at pl
              intro c3 le3 st3 wf3
              cases fl with
              | nx env2 => exact fun σ3 re3 => ⟨c3, h2, env2, rfl, wf3, le3, re3, PostS.sta (le1.toSta.trans st3) pl⟩
              | ct env2 => exact fun σ3 re3 => ⟨c3, h2, env2, rfl, wf3, le3, re3, PostS.sta (le1.toSta.trans st3) pl⟩
              | bk env2 => exact fun σ3 re3 => pl c3 le3 (le1.toSta.trans st3) wf3 σ3 re3
              | rt r => exact fun v rr fr => pl c3 le3 (le1.toSta.trans st3) wf3 v rr fr
        | _ => exact False.elim pl
/-! ### ends -/
theorem st_ret {e : Expr} {m : E} (he : PE X e (tE X.K EW C G m)) : PS X (.Return (some e) pos) (tS X.K EW C G ce (.ret m)) := (ps_ret he).imp fun D σ H w => by
  obtain ⟨c, h, env, rfl, wf, le, re, p⟩ := w
  unfold execS at p
  refine ⟨ce.H, c, h, env, rfl, wf, re, PostS.bindE (Rl := RE X.K c) le p fun y h1 c1 v le1 wf1 r1 p1 => ?_⟩
  cases y with
  | bor l => exact False.elim p1
  | new l => exact p1 c1 (le.trans le1) (Sta.refl c1) wf1 v r1.1 (Fr.mono le r1.2)
  | dat d => exact p1 c1 (le.trans le1) (Sta.refl c1) wf1 v r1.1 True.intro
theorem st_retV {x : Str} {px : Pos} (k : Nat) (ho : PE X (.Name x px) (tVar k)) : PS X (.Return (some (.Name x px)) pos) (tS X.K EW C G ce (.retV k)) := (ps_ret ho).imp fun D σ H w => by
  obtain ⟨c, h, env, rfl, wf, le, re, p⟩ := w
  unfold execS at p
  cases ek : env[k]? with
  | none => rw [ek] at p; exact False.elim p
  | some s =>
    rw [ek] at p
    cases s with
    | un => exact False.elim p
    | val d' => exact False.elim p
    | own l =>
      obtain ⟨a, ea, ow, hz⟩ := re.own ek
      exact ⟨.ref a, ea, p c le (Sta.refl c) wf (.ref a) ow hz⟩
/-! what is returned, where a list that a name owns may be handed on in a branch -/
def tRetS (K : PySem.W.Frag) (EW : EWish) (C : Calls') (G : Str → Option D) (ce : Cfg) (s : S) : TE := fun σ H Q => ∃ D : Ends, D.rt = Q ∧ tS K EW C G ce s D σ H
theorem rt_e {e : Expr} {m : E} (he : PE X e (tE X.K EW C G m)) : PE X e (tRetS X.K EW C G ce (.ret m)) := he.imp fun σ H Q w => by
  obtain ⟨D, rfl, c, h, env, rfl, wf, le, re, p⟩ := w
  unfold execS at p
  refine ⟨ce.H, c, h, env, rfl, wf, re, PostS.bindE (Rl := RE X.K c) le p fun y h1 c1 v le1 wf1 r1 p1 => ?_⟩
  cases y with
  | bor l => exact False.elim p1
  | new l => exact p1 c1 (le.trans le1) (Sta.refl c1) wf1 v r1.1 (Fr.mono le r1.2)
  | dat d => exact p1 c1 (le.trans le1) (Sta.refl c1) wf1 v r1.1 True.intro
theorem rt_v {x : Str} {px : Pos} (k : Nat) (ho : PE X (.Name x px) (tVar k)) : PE X (.Name x px) (tRetS X.K EW C G ce (.retV k)) := ho.imp fun σ H Q w => by
  obtain ⟨D, rfl, c, h, env, rfl, wf, le, re, p⟩ := w
  unfold execS at p
  cases ek : env[k]? with
  | none => rw [ek] at p; exact False.elim p
  | some s =>
    rw [ek] at p
    cases s with
    | un => exact False.elim p
    | val d' => exact False.elim p
    | own l =>
      obtain ⟨a, ea, ow, hz⟩ := re.own ek
      exact ⟨.ref a, ea, p c le (Sta.refl c) wf (.ref a) ow hz⟩
theorem one_post {K : PySem.W.Frag} {EW : EWish} {ce c : Cfg} {D : Ends} {s : S} {env : Env'} {h : Hh} (p : PostS K EW ce c D (execSs C G (.cons s .nil) env h)) : PostS K EW ce c D (execS C G s env h) := by
  unfold execSs at p
  cases q : execS C G s env h with
  | bad => rw [q] at p; exact p
  | ex x h' => rw [q] at p; exact p
  | ok fl h' =>
    rw [q] at p
    cases fl with
    | nx e => simp only [execSs] at p; exact p
    | _ => exact p
theorem rt_ite {d a b : Expr} {md : E} {sa sb : S} {ip : Pos} (hd : PT X d (tT X.K EW C G md)) (ha : PE X a (tRetS X.K EW C G ce sa)) (hb : PE X b (tRetS X.K EW C G ce sb)) : PE X (.IfExp d a b ip) (tRetS X.K EW C G ce (.ifs md (.cons sa .nil) (.cons sb .nil))) := (pe_ifExp hd ha hb).imp fun σ H Q w => by
  obtain ⟨D, rfl, c, h, env, rfl, wf, le, re, p⟩ := w
  unfold execS at p
  refine ⟨ce.H, c, h, env, rfl, wf, re, PostS.bindE (Rl := RE X.K c) le p fun y h1 c1 v le1 wf1 r1 p1 => ?_⟩
  split at p1
  · have q : RelD X.K c1 (.bl true) v := r1.1
    unfold RelD at q
    refine ⟨true, q, ?_⟩
    show if true = true then _ else _
    rw [if_pos rfl]
    exact ⟨D, rfl, c1, h1, env, rfl, wf1, le.trans le1, re.mono le1, one_post p1⟩
  · have q : RelD X.K c1 (.bl false) v := r1.1
    unfold RelD at q
    refine ⟨false, q, ?_⟩
    show if false = true then _ else _
    rw [if_neg Bool.false_ne_true]
    exact ⟨D, rfl, c1, h1, env, rfl, wf1, le.trans le1, re.mono le1, one_post p1⟩
  · exact False.elim p1
theorem st_retX {e : Expr} {s : S} (he : PE X e (tRetS X.K EW C G ce s)) : PS X (.Return (some e) pos) (tS X.K EW C G ce s) := (ps_ret he).imp fun D σ H w => ⟨D, rfl, w⟩
theorem st_retn : PS X (.Return none pos) (tS X.K EW C G ce .retn) := ps_retN.imp fun D σ H w => by
  obtain ⟨c, h, env, rfl, wf, le, re, p⟩ := w
  unfold execS at p
  exact p c le (Sta.refl c) wf .non (show RelD X.K c .non .non by unfold RelD; rfl) True.intro
theorem st_pass : PS X (.Pass pos) (tS X.K EW C G ce .pass) := ps_pass.imp fun D σ H w => by
  obtain ⟨c, h, env, rfl, wf, le, re, p⟩ := w
  unfold execS at p
  exact p c le (Sta.refl c) wf σ re
theorem st_brk : PS X (.Break pos) (tS X.K EW C G ce .brk) := ps_break.imp fun D σ H w => by
  obtain ⟨c, h, env, rfl, wf, le, re, p⟩ := w
  unfold execS at p
  exact p c le (Sta.refl c) wf σ re
theorem st_cnt : PS X (.Continue pos) (tS X.K EW C G ce .cnt) := ps_continue.imp fun D σ H w => by
  obtain ⟨c, h, env, rfl, wf, le, re, p⟩ := w
  unfold execS at p
  exact p c le (Sta.refl c) wf σ re
theorem st_never {st : Stmt} : PS X st (tS X.K EW C G ce .never) := ps_never.imp fun D σ H w => by
  obtain ⟨c, h, env, rfl, wf, le, re, p⟩ := w
  unfold execS at p
  exact False.elim p
end
end Mi
/-! Mi8: defs, all at once; the law's own call. -/
namespace Mi
open PySem PySem.Spec PyProof.Rows L2
variable [Tb]

/-- a def keeps a promise wherever nothing is being shown (so that a list's text can be reckoned) -/
structure FnG (P : Program) (w : World) (K : PySem.W.Frag) (mg : Str → Option Value) (base : Heap) (CX : CXT) (k : Nat) (f : Addr) (fd : FuncData) (ps : List Str) (sp : Sp) : Prop where
  len : ∀ vs H Q E, sp vs H Q E → vs.length = ps.length
  run : ∀ (A : Around) (outer : List Env) (s : Shared) (H : Hp) (args : Args) (us : List Value) (vs : List V) (Q : VK) (E : XK), Room k A → A.guards = some [] → Env0 P w K mg base A outer s H →
    BindsTo s fd args (ps.zip us) → Vals vs us → sp vs H Q E → codeAny (model P w) A (.call (.ref f) args) (CR CX outer P w H s Q E) s
section
variable {P : Program} {w : World} {K : PySem.W.Frag} {mg : Str → Option Value} {base : Heap}
theorem FnG.mono {CX : CXT} {j k : Nat} {f : Addr} {fd : FuncData} {ps : List Str} {sp : Sp} (F : FnG P w K mg base CX j f fd ps sp) (h : j ≤ k) : FnG P w K mg base CX k f fd ps sp :=
  ⟨F.len, fun A outer s H args us vs Q E r => F.run A outer s H args us vs Q E (r.mono h)⟩
/-- by its body -/
theorem fnG_of {CX : CXT} {k : Nat} {x qual : Str} {st : Stmt} {f : Addr} {fd : FuncData} {N ps : List Str} {sp : Sp} (F : Fun K x qual st f fd) (S : FnScope N ps (defScope st)) (len : ∀ vs H Q E, sp vs H Q E → vs.length = ps.length)
    (body : ∀ (cdv : Value), fd.code = cdv → ∀ (A : Around) (outer : List Env) (s : Shared) (H : Hp) (vs : List V) (Q : VK) (E : XK), Room k (A.deeper (envOfC qual (defScope st) s.heap.objs.size f cdv)) → A.guards = some [] → sp vs H Q E →
      ∃ t, PSs (cxOf CX P w K mg base N qual (defScope st) f cdv A outer s H E) (defBody st) t ∧ t { nx := fun _ H' => Q .non H', rt := Q } (L2.start N vs) H) : FnG P w K mg base CX (k + 1) f fd ps sp := by
  obtain ⟨oc, od, kV, doc, pm, an, cdv, ct, osl, rfl, lk, hcd⟩ := F.ex
  refine ⟨len, fun A outer s H args us vs Q E hr hgd e0 hb r hsp => ?_⟩
  have hlen := len vs H Q E hsp
  have KX : K.In s.heap := e0.mod.kin.keeps fun b o z => (e0.bs b o z).1
  have lim : s.heap.NoLimit := e0.mod.nolimit.keeps fun b o z => (e0.bs b o z).1
  have kinds : ∀ y ∈ ps.zip us, (defScope st).names.lookup y.1 = some .local ∨ ((defScope st).names.lookup y.1 = some .cell ∧ ((cellsFrom (s.heap.objs.size + 1) (defScope st).names []).lookup y.1).isSome = true) := by
    rintro ⟨n, v⟩ hy
    cases S.par n (List.of_mem_zip hy).1 with
    | inl q => exact .inl q
    | inr q => exact .inr ⟨q, PySem.W.cellsFrom_some _ _ _ (.inl q)⟩
  refine codeAny_call_function hr.depth (KX f _ lk) rfl S.co S.gen rfl (PySem.W.codeRec_of KX hcd) (hb _ _ _ _ (wpAny_newFunctionEnv_cells S.kind kinds fun env he s1 ic => ?_))
  subst he
  refine ⟨lim.keeps ic.toInCall.keep, codeAny_func ?_⟩
  obtain ⟨t, ht, q⟩ := body cdv rfl A outer s H vs Q E (hr.deeper _) hgd hsp
  have I := inv_start (CX := CX) (E := E) S hr.hd e0 hlen r ic
  have back : ∀ {σ' : L2.St} {H' : Hp} {v : V} {u : Value} {s' : Shared}, Inv (cxOf CX P w K mg base N qual (defScope st) f cdv A outer s H E) [] σ' H' s' → RelV v u → Q v H' → CE outer P w H s Q u s' :=
    fun {σ' H' v u s'} J rv qv => ⟨v, H', J.os, J.bare, J.base, J.hok, rv, qv⟩
  refine wpAny_mono (ht.run [] s1 (L2.start N vs) H _ I q) (fun fl s' z => ?_) fun _ _ z => z
  cases fl with
  | brk => obtain ⟨_, _, _, z⟩ := z; exact z.elim
  | cont => obtain ⟨_, _, _, z⟩ := z; exact z.elim
  | next =>
    obtain ⟨σ', H', J, z⟩ := z
    exact back (v := .non) (u := Value.none) J rfl z
  | ret u =>
    obtain ⟨v, σ', H', J, rv, z⟩ := z
    exact back J rv z
end
section
variable {X : Cx} {CX : CXT} {k : Nat} {f : Addr} {fd : FuncData} {ps : List Str} {sp : Sp} {E : XK}
theorem run_G {pins : List (Addr × Obj)} {σ : L2.St} {H : Hp} {s : Shared} {Q : VK} {us : List Value} {vs : List V} (F : FnG X.prog X.w X.K X.mg X.base CX k f fd ps sp) (hr : Room k X.A) (hgd : X.A.guards = some []) (hb : Binds X.K fd ps []) (hx : Passes CX X E)
    (I : Inv X pins σ H s) (r : Vals vs us) (h : sp vs H Q E) : wpAny (model X.prog X.w) X.A (call (.ref f) us) (EP X pins σ Q) X.xe s := by
  have hl : us.length = ps.length := r.length.symm.trans (F.len vs H Q E h)
  have bt : BindsTo s fd ⟨us, []⟩ (ps.zip us) := by
    have := hb s us I.kIn (by rw [List.append_nil]; exact hl)
    rwa [List.append_nil] at this
  refine wpAny_call (codeAny_mono (F.run X.A X.stack s H ⟨us, []⟩ us vs Q E hr hgd I.env0 bt r h) fun res s' z => ?_)
  match res, z with
  | .error e, z => exact hx pins σ H s e s' I z
  | .ok (.ret u), z => exact I.after z
  | .ok .next, z => exact z.elim
  | .ok .brk, z => exact z.elim
  | .ok .cont, z => exact z.elim
end
/-- how an exception of the evaluator lies in the heap: its class, its dict -/
def RelX (K : PySem.W.Frag) (c : Cfg) (x : Exc) (cls : Value) (d : Option Addr) : Prop :=
  refusals.contains x.cls = true ∧ ∃ C, glA K x.cls = some C ∧ cls = .ref C ∧ ((x.fs = [] ∧ d = none) ∨ ∃ dd fs vs, d = some dd ∧ c.H dd = some (.xd fs) ∧ RelDs K c x.fs vs ∧ ∀ (i : Nat) (n : Str), (fldN x.cls)[i]? = some n → fs.lookup n = vs[i]?)
/-- the layer's wish as the evaluator's -/
def ofE (K : PySem.W.Frag) (E : XK) : EWish := fun x c _ => ∀ cls d, RelX K c x cls d → E cls d c.H
/-- the evaluator's wish as the layer's -/
def toE (K : PySem.W.Frag) (EW : EWish) : XK := fun cls d H => ∃ x c h, c.H = H ∧ WF K c h ∧ RelX K c x cls d ∧ EW x c h
/-- what a def promises: what the evaluator says -/
def spM (K : PySem.W.Frag) (C : Calls') (f : Str) (n : Nat) : Sp := fun vs H Q E => vs.length = n ∧ ∃ (c : Cfg) (h : Hh) (ds : List D), c.H = H ∧ WF K c h ∧ RelDs K c ds vs ∧ PostE K (ofE K E) c Q (C f ds h)
/-- the defs that may be called -/
def CallsOk (P : Program) (w : World) (K : PySem.W.Frag) (mg : Str → Option Value) (base : Heap) (k : Nat) (C : Calls') (f : Str) : Prop :=
  ∃ (fa : Addr) (fd : FuncData) (ps : List Str), mg f = some (.ref fa) ∧ glA K f = some fa ∧ PySem.W.keepIn K (.ref fa) = true ∧ Binds K fd ps [] ∧ FnG P w K mg base (L2.CX P w) k fa fd ps (spM K C f ps.length) ∧ ∀ (ds : List D) (h : Hh), ds.length ≠ ps.length → C f ds h = .bad
section
variable {X : Cx} {EW : EWish} {C : Calls'} {G : Str → Option D}
theorem PostE.ofTo {K : PySem.W.Frag} {c : Cfg} {Q : VK} {res : Res R} (p : PostE K EW c Q res) : PostE K (ofE K (toE K EW)) c Q res := by
  cases res with
  | bad => exact p
  | ok r h => exact p
  | ex x h => exact fun c' l w cls d r => ⟨x, c', h, rfl, w, r, p c' l w⟩
theorem call_red {f : Str} {n : Nat} {ms : Es} (hb : ∀ (ds : List D) (h : Hh), ds.length ≠ n → C f ds h = .bad) : ∀ σ H Q, tE X.K EW C G (.call f ms) σ H Q → tA X.K EW C G ms σ H (fun vs H1 => spM X.K C f n vs H1 Q (toE X.K EW)) := fun σ H Q w => by
  obtain ⟨He, c, h, env, rfl, wf, re, p⟩ := w
  unfold evalE at p
  refine ⟨He, c, h, env, rfl, wf, re, p.bind fun ds h1 c1 vs le1 wf1 r1 p1 => ?_⟩
  by_cases hl : ds.length = n
  · exact ⟨by rw [← RelDs.length r1]; exact hl, c1, h1, ds, rfl, wf1, r1, PostE.ofTo (PostE.lift le1 p1)⟩
  · rw [hb ds h1 hl] at p1
    exact False.elim p1
theorem sim_call {f : Str} {k : Nat} {e : Expr} {es : List Expr} {ms : Es} {p pos : Pos} (ok : CallsOk X.prog X.w X.K X.mg X.base k C f) (hr : Room k X.A) (hgd : X.A.guards = some []) (tk : Takes X fun cls d _ H => toE X.K EW cls d H) (ha : PA X (e :: es) (tA X.K EW C G ms)) (hg : Gl X f := by rfl)
    (hdb : (f == ("__debug__" : Str)) = false := by decide) (he : starEach (e :: es) X.env = (false, eval e X.env) :: starEach es X.env := by rfl) (hpl : (backTo pos (starEach es X.env)).any (·.1) = false := by rfl) : PE X (.Call (.Name f p) (e :: es) [] pos) (tE X.K EW C G (.call f ms)) := by
  obtain ⟨fa, fd, ps, h1, h1g, h2, h3, F, h4⟩ := ok
  refine ⟨fun pins s σ H Q I w => ?_⟩
  refine wpAny_Call_Name_kw (ld_glob I hg h1 ?_ hdb)
  refine PySem.W.callWith_K (h₀ := X.base) I.ok.mod.kin h2 (thn (ha.run pos pins s σ H _ I (call_red h4 σ H Q w)) fun us s1 ⟨vs, H1, I1, r, q⟩ => ⟨I1.kIn, ?_⟩) he hpl
  exact run_G F hr hgd h3 (passes_call tk fun _ _ _ _ h => h) I1 r q
theorem sim_call0 {f : Str} {k : Nat} {p pos : Pos} (ok : CallsOk X.prog X.w X.K X.mg X.base k C f) (hr : Room k X.A) (hgd : X.A.guards = some []) (tk : Takes X fun cls d _ H => toE X.K EW cls d H) (hg : Gl X f := by rfl)
    (hdb : (f == ("__debug__" : Str)) = false := by decide) : PE X (.Call (.Name f p) [] [] pos) (tE X.K EW C G (.call f .nil)) := by
  obtain ⟨fa, fd, ps, h1, h1g, h2, h3, F, h4⟩ := ok
  refine ⟨fun pins s σ H Q I w => ?_⟩
  refine wpAny_Call_Name_kw (ld_glob I hg h1 ?_ hdb)
  refine PySem.W.callWith_K0 I.kIn h2 (run_G (us := []) F hr hgd h3 (passes_call tk fun _ _ _ _ h => h) I .nil ?_)
  obtain ⟨He, c, h, env, rfl, wf, re, q⟩ := call_red h4 σ H Q w
  unfold evalEs at q
  exact q c [] (Le.refl c) wf RelDs.nil
end
/-! ### all defs of a table -/
/-- what a body may lean on -/
structure Has (X : Cx) (EW : EWish) (k : Nat) (C : Calls') (G : Str → Option D) (T : Tab) (bs : List Str) : Prop where
  room : Room k X.A
  gd : X.A.guards = some []
  glob : Glob X.K X.mg G
  call : ∀ f d, T f = some d → CallsOk X.prog X.w X.K X.mg X.base k C f
  blt : ∀ b ∈ bs, X.mg b = none
  tk : Takes X fun cls d _ H => toE X.K EW cls d H
  nul : ∀ f, T f = Option.none → ∀ (ds : List D) (h : Hh), C f ds h = .bad
/-- and where a lambda may be made -/
structure HasB (X : Cx) (EW : EWish) (k : Nat) (C : Calls') (G : Str → Option D) (T : Tab) (bs : List Str) : Prop extends Has X EW k C G T bs where
  room2 : Room (k + 2) X.A
section
variable {X : Cx} {EW : EWish} {k : Nat} {C : Calls'} {G : Str → Option D} {T : Tab} {bs : List Str}
theorem Has.hu (h : Has X EW k C G T bs) : X.A.units + 200 < cLine := by have := h.room.un; omega
theorem Has.hu64 (h : Has X EW k C G T bs) : X.A.units + 64 < cLine := by have := h.room.un; omega
theorem Has.no (h : Has X EW k C G T bs) {b : Str} (hb : bs.contains b = true := by decide +kernel) : X.mg b = none := h.blt b (by simpa using hb)
theorem takes_none {X : Cx} : Takes X fun cls d _ H => toE X.K EW0 cls d H := LamX.takes0.imp fun _ _ _ _ ⟨_, _, _, _, _, _, z⟩ => z
theorem Has.blk (h : Has X EW k C G T bs) (s : Shared) (H : Hp) (scope : Scope) (ce : Env) (fp : List Addr) : Has (X.blk s H scope ce fp) EW0 k C G T bs := ⟨h.room, h.gd, h.glob, h.call, h.blt, takes_none, h.nul⟩
theorem HasB.blk (h : HasB X EW k C G T bs) (s : Shared) (H : Hp) (scope : Scope) (ce : Env) (fp : List Addr) : HasB (X.blk s H scope ce fp) EW0 k C G T bs := ⟨h.toHas.blk s H scope ce fp, h.room2⟩
end
/-- the context of a def's body -/
abbrev bodyX (P : Program) (w : World) (K : PySem.W.Frag) (mg : Str → Option Value) (base : Heap) (N : List Str) (qual : Str) (st : Stmt) (fa : Addr) (cdv : Value) (A : Around) (outer : List Env) (s : Shared) (H : Hp) (E : XK) : Cx :=
  cxOf (L2.CX P w) P w K mg base N qual (defScope st) fa cdv A outer s H E
theorem takes_body {P : Program} {w : World} {K : PySem.W.Frag} {mg : Str → Option Value} {base : Heap} {N : List Str} {qual : Str} {st : Stmt} {fa : Addr} {cdv : Value} {A : Around} {outer : List Env} {s : Shared} {H : Hp} {E : XK} :
    Takes (bodyX P w K mg base N qual st fa cdv A outer s H E) fun cls d _ H' => toE K (ofE K E) cls d H' :=
  (takes_of (E := E) rfl rfl rfl rfl).imp fun _ _ _ _ ⟨_, _, _, e, _, r, q⟩ => by
    rw [← e]
    exact q _ _ r
/-- a def of the text with its small body: at every call the machine does what the small body says -/
def Tied (P : Program) (w : World) (K : PySem.W.Frag) (mg : Str → Option Value) (base : Heap) (T : Tab) (G : Str → Option D) (bs : List Str) (f : Str) (d : Fn) : Prop :=
  ∃ (fa : Addr) (fd : FuncData) (ps N : List Str) (st : Stmt) (qual : Str), mg f = some (.ref fa) ∧ glA K f = some fa ∧ Fun K f qual st fa fd ∧ Binds K fd ps [] ∧ FnScope N ps (defScope st) ∧ d.pars = ps.length ∧ d.slots = N.length ∧
    ∀ (k : Nat) (C : Calls') (cdv : Value), fd.code = cdv → ∀ (A : Around) (outer : List Env) (s : Shared) (H : Hp) (E : XK), HasB (bodyX P w K mg base N qual st fa cdv A outer s H E) (ofE K E) k C G T bs → ∀ ce : Cfg,
      PSs (bodyX P w K mg base N qual st fa cdv A outer s H E) (defBody st) (tSs K (ofE K E) C G ce d.body)
theorem run_none {T : Tab} {G : Str → Option D} {n : Nat} {f : Str} (e : T f = none) (ds : List D) (h : Hh) : run T G n f ds h = .bad := by
  cases n with
  | zero => rfl
  | succ n =>
    unfold run
    rw [e]
theorem run_bad {T : Tab} {G : Str → Option D} {n : Nat} {f : Str} {d : Fn} (e : T f = some d) (ds : List D) (h : Hh) (hl : ds.length ≠ d.pars) : run T G n f ds h = .bad := by
  cases n with
  | zero => rfl
  | succ n =>
    unfold run
    rw [e]
    show runBody _ G d ds h = _
    unfold runBody
    rw [if_neg hl]
theorem start_env {N ps : List Str} {d : Fn} {K : PySem.W.Frag} {c : Cfg} {ds : List D} {vs : List V} {He : Hp} (hN : d.slots = N.length) (hp : d.pars = ps.length) (hpl : ps.length ≤ N.length) (hl : vs.length = ps.length) (r : RelDs K c ds vs) :
    RelEnv K He c (d.env ds) (L2.start N vs) := by
  have el := RelDs.length r
  have no : ∀ (i : Nat) (l : List D), (d.env ds)[i]? ≠ some (.own l) := fun i l e => by
    unfold Fn.env at e
    by_cases hi : i < ds.length
    · rw [List.getElem?_append_left (by simpa using hi), List.getElem?_map] at e
      cases q : ds[i]? with
      | none => rw [q] at e; cases e
      | some x => rw [q] at e; cases e
    · rw [List.getElem?_append_right (by simpa using hi), List.getElem?_replicate] at e
      split at e <;> cases e
  refine ⟨?_, fun i s e => ?_, fun i j l m a e1 _ _ _ => absurd e1 (no i l)⟩
  · unfold Fn.env L2.start
    simp [hN, hp, hl, el]
  · unfold Fn.env at e
    by_cases hi : i < ds.length
    · rw [List.getElem?_append_left (by simpa using hi), List.getElem?_map] at e
      cases q : ds[i]? with
      | none => rw [q] at e; cases e
      | some x =>
        rw [q] at e
        cases e
        obtain ⟨v, h1, h2⟩ := RelDs.get r q
        refine ⟨some v, ?_, v, rfl, h2⟩
        unfold L2.start
        rw [List.getElem?_append_left (by simpa using (by omega : i < vs.length)), List.getElem?_map, h1]
        rfl
    · have hi2 : ¬ i < (ds.map Slot.val).length := by simpa using hi
      have hlt := (List.getElem?_eq_some_iff.mp e).1
      rw [List.getElem?_append_right (Nat.le_of_not_lt hi2), List.getElem?_replicate] at e
      split at e
      · rename_i hr
        cases e
        refine ⟨none, ?_, True.intro⟩
        unfold L2.start
        rw [List.getElem?_append_right (by simp; omega), List.getElem?_replicate, if_pos]
        simp only [List.length_map] at hr ⊢
        omega
      · cases e
/-- every def of the table keeps its promise, at every level -/
theorem all_defs {P : Program} {w : World} {K : PySem.W.Frag} {mg : Str → Option Value} {base : Heap} {T : Tab} {G : Str → Option D} {bs : List Str} (gl : Glob K mg G) (hb : ∀ b ∈ bs, mg b = none) (tied : ∀ f d, T f = some d → Tied P w K mg base T G bs f d) :
    ∀ (n : Nat) (f : Str) (d : Fn), T f = some d → CallsOk P w K mg base (3 * n) (run T G n) f := by
  intro n
  induction n with
  | zero =>
    intro f d e
    obtain ⟨fa, fd, ps, N, st, qual, h1, h1g, F, h2, S, h3, h4, _⟩ := tied f d e
    refine ⟨fa, fd, ps, h1, h1g, F.kp, h2, ⟨fun vs H Q E z => z.1, fun A outer s H args us vs Q E _ _ _ _ _ z => ?_⟩, fun ds h hl => run_bad e ds h (by rw [h3]; exact hl)⟩
    obtain ⟨_, c, h, ds, _, _, _, p⟩ := z
    exact False.elim p
  | succ n ih =>
    intro f d e
    obtain ⟨fa, fd, ps, N, st, qual, h1, h1g, F, h2, S, h3, h4, body⟩ := tied f d e
    have hpl : ps.length ≤ N.length := by have := congrArg List.length S.pre; rw [List.length_take] at this; omega
    refine ⟨fa, fd, ps, h1, h1g, F.kp, h2, fnG_of (k := 3 * n + 2) F S (fun vs H Q E z => z.1) fun cdv hcv A outer s H vs Q E hr hgd z => ?_, fun ds h hl => run_bad e ds h (by rw [h3]; exact hl)⟩
    obtain ⟨hl, c, h, ds, rfl, wf, r, p⟩ := z
    have hs : HasB (bodyX P w K mg base N qual st fa cdv A outer s c.H E) (ofE K E) (3 * n) (run T G n) G T bs := ⟨⟨hr.mono (by omega), hgd, gl, fun g d' e' => ih g d' e', hb, takes_body, fun f e ds h => run_none e ds h⟩, hr⟩
    refine ⟨_, body (3 * n) (run T G n) cdv hcv A outer s c.H E hs c, ?_⟩
    refine ⟨c, h, d.env ds, rfl, wf, Le.refl c, start_env h4 h3 hpl hl r, ?_⟩
    have el := RelDs.length r
    unfold run at p
    rw [e] at p
    simp only [runBody] at p
    rw [if_pos (by rw [el, hl, h3])] at p
    cases q : execSs (run T G n) G d.body (d.env ds) h with
    | bad => rw [q] at p; exact p
    | ex x h' => rw [q] at p; exact fun c' l w' => p c' l w'
    | ok fl h' =>
      rw [q] at p
      intro c' le' st' wf'
      cases fl with
      | nx env' => exact fun σ' re' => p c' .non le' wf' ⟨show RelD K c' .non .non by unfold RelD; rfl, True.intro⟩
      | bk env' => exact False.elim p
      | ct env' => exact False.elim p
      | rt r' => exact fun v rr fr => p c' v le' wf' ⟨rr, fr⟩
end Mi
/-! MiRz: a refusal is raised. -/
namespace Mi
open PySem PySem.Spec PyProof.Rows L2
variable [Tb]
/-- the classes of a ValueError's kin -/
abbrev veB : List Value := [.type "ValueError", .type "Exception", .type "BaseException", .type "object"]
/-- what a class of the program must be, so that X('..') may be raised -/
structure Rz (K : PySem.W.Frag) (mg : Str → Option Value) (x : Str) (C : Addr) : Prop where
  gC : mg x = some (.ref C)
  gl : glA K x = some C
  kC : PySem.W.keepIn K (.ref C) = true
  q : PySem.W.excIn K C veB "ValueError.__new__" = true
  sb : PySem.W.subIn K (.ref C) (.type "BaseException") = some true
  ty : PySem.W.typeIn K (.ref C) = some (.type "type")
section
variable {X : Cx} {EW : EWish} {C : Calls'} {G : Str → Option D} {ce : Cfg} {x m : Str} {A : Addr} {j : Nat} {p p1 p2 pos : Pos}
theorem st_raise (R : Rz X.K X.mg x A) (hc : X.calm = true) (tk : Takes X fun cls d _ H => toE X.K EW cls d H) (hx : refusals.contains x = true := by decide +kernel) (hg : Gl X x := by rfl) (hdb : (x == ("__debug__" : Str)) = false := by decide) :
    PS X (.Raise (some (.Call (.Name x p) [.Constant (.str m) j p2] [] p1)) none pos) (tS X.K EW C G ce (.raise x .nil)) :=
  (ps_raise hc tk (SkE.pmk_own1 PySem.F.excBase_ValueError R.q R.gC R.kC (raises_own R.sb R.ty) hg pe_str (by rfl) hdb)).imp fun D σ H w => by
    obtain ⟨c, h, env, rfl, wf, le, re, p⟩ := w
    have p : PostS X.K EW ce c D (.ex ⟨x, []⟩ h) := p
    exact ⟨⟨x, []⟩, c, h, rfl, wf, ⟨hx, A, R.gl, rfl, .inl ⟨rfl, rfl⟩⟩, p c le wf⟩
end
end Mi
/-! MiTold: kept exceptions asked; defs as values. -/
namespace Mi
open PySem PySem.Spec PyProof.Rows L2
variable [Tb]
/-- what the program's classes of refusals must be -/
structure XFacts (K : PySem.W.Frag) : Prop where
  cls : ∀ k D, refusals.contains k = true → glA K k = some D → ExcC K D
  kitV : ∀ k D, refusals.contains k = true → glA K k = some D → PySem.W.kitOne K (.ref D) (.type "ValueError") = some true
  kit : ∀ (k c : Str) (D C : Addr) (b : Bool), c ≠ "ValueError" → isxF k c = some b → glA K k = some D → glA K c = some C → PySem.W.kitOne K (.ref D) (.ref C) = some b
  exm : ∀ (k : Str) (D CS : Addr), refusals.contains k = true → glA K k = some D → glA K "WayError" = some CS → PySem.W.exmOne K (.ref D) (.ref CS) = some true
  fld : ∀ k D f, (fldN k).contains f = true → glA K k = some D → XfC K D ∧ PySem.W.findIn K (.ref D) f = some none
section
variable {X : Cx} {EW : EWish} {C : Calls'} {G : Str → Option D}
theorem idx_at {n : Str} : ∀ L : List Str, n ∈ L → L[L.idxOf n]? = some n
  | [], h => by cases h
  | a :: L, h => by
    by_cases q : a = n
    · subst q; simp
    · have h2 : n ∈ L := by
        rcases List.mem_cons.mp h with z | z
        · exact absurd z.symm q
        · exact z
      have e : (a :: L).idxOf n = L.idxOf n + 1 := by
        have hb : (a == n) = false := beq_eq_false_iff_ne.mpr q
        rw [List.idxOf_cons, hb]; rfl
      rw [e]
      simpa using idx_at L h2
theorem isxF_ref {k c : Str} {b : Bool} (e : isxF k c = some b) : refusals.contains k = true := by
  unfold isxF at e
  split at e
  · assumption
  · cases e
def isxR (c : Str) (h1 : Hh) : R → Res R
  | .dat (.sp true k _) => Res.of h1 ((isxF k c).map fun b => .dat (.bl b))
  | _ => .bad
/-- the answer of isinstance of a kept one -/
theorem isx_red {c0 : Cfg} {h1 : Hh} {x : R} {u : V} {c : Str} {Q : VK} {cc : V} {cv : Value} (xf : XFacts X.K) (wf1 : WF X.K c0 h1) (r1 : RelR X.K c0 x u) (hcv : ∀ w, RelV cc w → w = cv)
    (hk : ∀ k D b, isxF k c = some b → glA X.K k = some D → PySem.W.kitOne X.K (.ref D) cv = some b)
    (p1 : PostE X.K EW c0 Q (isxR c h1 x)) : rIsK X.K [u, cc] c0.H Q := by
  unfold isxR at p1
  split at p1
  · rename_i k l
    cases e : isxF k c with
    | none => rw [e] at p1; exact False.elim p1
    | some b =>
      rw [e] at p1
      have r1 : RelD X.K c0 (.sp true k l) u := r1
      unfold RelD at r1
      obtain ⟨D, gD, r1⟩ := r1
      rw [if_pos rfl] at r1
      obtain ⟨a, d, rfl, hH, hd⟩ := r1
      refine ⟨a, D, d, cc, cv, b, rfl, hH, xf.cls k D (isxF_ref e) gD, fun dd z => ?_, hcv, hk k D b e gD, PostE.here (r := .dat (.bl b)) wf1 p1 (by show RelD X.K c0 (.bl b) (.bl b); unfold RelD; rfl)⟩
      rcases hd with ⟨_, q⟩ | ⟨dd', fs, vs, q, q2, _⟩
      · rw [q] at z; cases z
      · rw [q] at z; cases z; exact ⟨fs, q2⟩
  · exact False.elim p1
theorem sim_isx {e : Expr} {m : E} {p p2 pos : Pos} {c : Str} {A : Addr} (xf : XFacts X.K) (he : PE X e (tE X.K EW C G m)) (hm : X.mg "isinstance" = none) (hA : glA X.K c = some A) (hmc : X.mg c = some (.ref A)) (hne : c ≠ "ValueError" := by decide) (hg : Gl X "isinstance" := by rfl) (hg2 : Gl X c := by rfl)
    (hd2 : (c == ("__debug__" : Str)) = false := by decide)
    (hs : starEach [e, .Name c p2] X.env = (false, eval e X.env) :: starEach [.Name c p2] X.env := by rfl) (hs2 : starEach [.Name c p2] X.env = (false, eval (.Name c p2) X.env) :: starEach [] X.env := by rfl) (hpl : (backTo pos (starEach [.Name c p2] X.env)).any (·.1) = false := by rfl) :
    PE X (.Call (.Name "isinstance" p) [e, .Name c p2] [] pos) (tE X.K EW C G (.isx m c)) := by
  have h2 : PE X (.Name c p2) (tC (.ref A)) := pe_glob (v := .ref A) hg2 hmc rfl hd2
  refine PE.imp (pe_callB call_isK hg hm PyProof.Rows.boot_isinstance (pa_cons he (pa_cons h2 pa_nil hs2) hs) (by decide) (by decide) hs hpl) fun σ H Q w => ?_
  obtain ⟨He, c0, h, env, rfl, wf, re, p⟩ := w
  unfold evalE at p
  exact ⟨He, c0, h, env, rfl, wf, re, p.bind fun x h1 c1 u le1 wf1 r1 p1 => isx_red (c := c) (x := x) (EW := EW) (cv := .ref A) xf wf1 r1.1 (fun w r => r) (fun k D b e1 e2 => xf.kit k c D A b hne e1 e2 hA) (PostE.lift (res := isxR _ h1 x) le1 p1)⟩
theorem sim_isxV {e : Expr} {m : E} {p p2 pos : Pos} (xf : XFacts X.K) (he : PE X e (tE X.K EW C G m)) (hm : X.mg "isinstance" = none) (hm2 : X.mg "ValueError" = none) (hg : Gl X "isinstance" := by rfl) (hg2 : Gl X "ValueError" := by rfl)
    (hs : starEach [e, .Name "ValueError" p2] X.env = (false, eval e X.env) :: starEach [.Name "ValueError" p2] X.env := by rfl) (hs2 : starEach [.Name "ValueError" p2] X.env = (false, eval (.Name "ValueError" p2) X.env) :: starEach [] X.env := by rfl) (hpl : (backTo pos (starEach [.Name "ValueError" p2] X.env)).any (·.1) = false := by rfl) :
    PE X (.Call (.Name "isinstance" p) [e, .Name "ValueError" p2] [] pos) (tE X.K EW C G (.isx m "ValueError")) := by
  have h2 : PE X (.Name "ValueError" p2) (tC (.ty "ValueError")) := pe_bltn (v := .ty "ValueError") hg2 hm2 (by decide +kernel) rfl (by decide) (by decide)
  refine PE.imp (pe_callB call_isK hg hm PyProof.Rows.boot_isinstance (pa_cons he (pa_cons h2 pa_nil hs2) hs) (by decide) (by decide) hs hpl) fun σ H Q w => ?_
  obtain ⟨He, c0, h, env, rfl, wf, re, p⟩ := w
  unfold evalE at p
  exact ⟨He, c0, h, env, rfl, wf, re, p.bind fun x h1 c1 u le1 wf1 r1 p1 => isx_red (c := "ValueError") (x := x) (EW := EW) (cv := .type "ValueError") xf wf1 r1.1 (fun w r => r) (fun k D b e1 e2 => by
    have er := isxF_ref e1
    have eb : b = true := by
      unfold isxF at e1
      rw [if_pos er, if_pos (.inl rfl)] at e1
      cases e1; rfl
    rw [eb]
    exact xf.kitV k D er e2) (PostE.lift (res := isxR _ h1 x) le1 p1)⟩
theorem sim_attr {e : Expr} {m : E} {n : Str} {pos : Pos} (xf : XFacts X.K) (he : PE X e (tE X.K EW C G m)) (hb : attributeBase e n X.env (eval e X.env) = eval e X.env := by rfl) : PE X (.Attribute e n pos) (tE X.K EW C G (.attr m n)) := by
  refine PE.imp (pe_xk he hb) fun σ H Q w => ?_
  obtain ⟨He, c0, h, env, rfl, wf, re, p⟩ := w
  unfold evalE at p
  refine ⟨He, c0, h, env, rfl, wf, re, p.bind fun x h1 c1 u le1 wf1 r1 p1 => ?_⟩
  have p1 := PostE.lift le1 p1
  split at p1
  · rename_i k l hh
    cases e : attrF k l n with
    | none => rw [e] at p1; exact False.elim p1
    | some dv =>
      rw [e] at p1
      unfold attrF at e
      split at e
      · rename_i hc
        have r1 : RelD X.K c1 (.sp true k l) u := r1.1
        unfold RelD at r1
        obtain ⟨D, gD, r1⟩ := r1
        rw [if_pos rfl] at r1
        obtain ⟨a, d, rfl, hH, hd⟩ := r1
        rcases hd with ⟨q, _⟩ | ⟨dd, fs, vs, q, q2, q3, q4⟩
        · rw [q] at e; simp at e
        · subst q
          obtain ⟨v, e2, rv⟩ := RelDs.get q3 e
          have hi : (fldN k)[(fldN k).idxOf n]? = some n := idx_at _ (by simpa using hc)
          exact ⟨a, D, dd, fs, v, rfl, hH, (xf.fld k D n hc gD).1, (xf.fld k D n hc gD).2, q2, (q4 _ n hi).trans e2, PostE.here (r := .dat dv) wf1 p1 rv⟩
      · cases e
  · exact False.elim p1
/-- a def as a value -/
theorem sim_fnv {x : Str} {A : Addr} {pos : Pos} (hk : PySem.W.keepIn X.K (.ref A) = true) (hA : glA X.K x = some A) (hm : X.mg x = some (.ref A)) (hg : Gl X x := by rfl) (hd : (x == ("__debug__" : Str)) = false := by decide) : PE X (.Name x pos) (tE X.K EW C G (.fnv x)) :=
  (pe_glob (v := .ref A) hg hm rfl hd).imp (by
    intro σ H Q w
    obtain ⟨He, c0, h, env, rfl, wf, re, p⟩ := w
    unfold evalE at p
    exact PostE.here (r := .dat (.sp false x [])) wf p (by
      show RelD X.K c0 (.sp false x []) (.ref A)
      unfold RelD
      exact ⟨A, hA, by rw [if_neg (by decide)]; exact ⟨rfl, hk⟩⟩))
end
end Mi
/-! MiTold2: what told makes of a lambda. -/
namespace Mi
open PySem PySem.Spec PyProof.Rows L2
variable [Tb]
theorem takes_len {X : Cx} {W : WX} (tk : Takes X W) : Takes X fun c d σ H => σ.length = X.N.length → W c d σ H := fun u s' ⟨a, B, sI, pins, σ, H, cls, d, e, I, nb, up, sky, na, os, ag, w⟩ =>
  tk u s' ⟨a, B, sI, pins, σ, H, cls, d, e, I, nb, up, sky, na, os, ag, w I.len⟩
theorem pe_fnG {X : Cx} {CX : CXT} {k : Nat} {f : Str} {fa : Addr} {fd : FuncData} {ps : List Str} {sp : Sp} {E : XK} {e : Expr} {es : List Expr} {t : TA} {p pos : Pos} (F : FnG X.prog X.w X.K X.mg X.base CX k fa fd ps sp) (hm : X.mg f = some (.ref fa)) (kp : PySem.W.keepIn X.K (.ref fa) = true)
    (hb : Binds X.K fd ps []) (hr : Room k X.A) (hgd : X.A.guards = some []) (hx : Passes CX X E) (ha : PA X (e :: es) t) (hg : Gl X f) (hdb : (f == ("__debug__" : Str)) = false)
    (he : starEach (e :: es) X.env = (false, eval e X.env) :: starEach es X.env := by rfl) (hpl : (backTo pos (starEach es X.env)).any (·.1) = false := by rfl) :
    PE X (.Call (.Name f p) (e :: es) [] pos) (fun σ H Q => t σ H fun vs H1 => sp vs H1 Q E) := by
  refine ⟨fun pins s σ H Q I w => ?_⟩
  refine wpAny_Call_Name_kw (ld_glob I hg hm ?_ hdb)
  refine PySem.W.callWith_K (h₀ := X.base) I.ok.mod.kin kp (thn (ha.run pos pins s σ H _ I w) fun us s1 ⟨vs, H1, I1, r, q⟩ => ⟨I1.kIn, ?_⟩) he hpl
  exact run_G F hr hgd hb hx I1 r q
theorem spM_len {K : PySem.W.Frag} {C : Calls'} {f : Str} {n : Nat} {vs : List V} {H : Hp} {Q : VK} {E : XK} (m4 : ∀ (ds : List D) (h : Hh), ds.length ≠ n → C f ds h = .bad) (w : spM K C f 1 vs H Q E) : spM K C f n vs H Q E := by
  obtain ⟨l, c, h, ds, e, wf, r, p⟩ := w
  have z : ds.length = n := Classical.byContradiction fun z => by rw [m4 ds h z] at p; exact p
  exact ⟨by rw [← z, RelDs.length r], c, h, ds, e, wf, r, p⟩
/-- what told makes of a lambda: its answer in a list; of a refusal what the def f makes of it -/
def TTold (K : PySem.W.Frag) (C : Calls') (CS : Addr) (f : Str) : (XK → Hp → VK → Prop) → Hp → VK → Prop := fun tl H Q => ∀ p, H p = none →
  tl (fun cls d H' => ∃ b, PySem.W.exmOne K cls (.ref CS) = some b ∧ (b = true → ∀ a, H' a = none → spM K C f 1 [.ref a] (upd H' a (XO a cls d)) Q fun _ _ _ => False) ∧ (b = false → False))
    (upd H p (.lst [])) (fun v H' => ∀ q, H' q = none → Q (.ref q) (upd H' q (.lst [v])))
theorem told_gives {X : Cx} {C : Calls'} {k : Nat} {a er fo en W fl x q : Str} {sg : Scope} {g CS : Addr} {cdg : Value} {j1 j2 : Nat} {p1 p2 p3 p4 p5 p6 p7 p8 p9 p10 p11 p12 p13 p14 p15 p16 p17 p18 p19 p20 z1 z2 z3 z4 z5 z6 : Pos}
    (hr : Room (k + 2) X.A) (hgd : X.A.guards = some []) (ok : CallsOk X.prog X.w X.K X.mg X.base k C fl)
    (nd : [a, er, fo, en].Nodup) (ler : sg.names.lookup er = some .local) (lfo : sg.names.lookup fo = some .local) (len : sg.names.lookup en = some .local)
    (gW : sg.names.lookup W = some .globalImplicit) (gF : sg.names.lookup fl = some .globalImplicit) (mW : X.mg W = some (.ref CS))
    (dW : (W == ("__debug__" : Str)) = false := by decide) (dF : (fl == ("__debug__" : Str)) = false := by decide) (der : (er == ("__debug__" : Str)) = false := by decide) (dfo : (fo == ("__debug__" : Str)) = false := by decide) (den : (en == ("__debug__" : Str)) = false := by decide)
    (cer : (er == ("__classdict__" : Str)) = false := by decide) (cfo : (fo == ("__classdict__" : Str)) = false := by decide) (cen : (en == ("__classdict__" : Str)) = false := by decide) :
    LamX.GivesTo X [a, er, fo, en] x sg g cdg
      [.Assign [.Name er p1] (.Constant .none j1 p2) z1, .Assign [.Name fo p3] (.List [] p4) z2,
        .Try [.Assign [.Name fo p5] (.List [.Call (.Name a p6) [] [] p7] p8) z3] [.ExceptHandler (some (.Name W p9)) (some en) [.Assign [.Name er p10] (.Name en p11) z4] p12] [] [] z5,
        .Return (some (.IfExp (.Compare (.Name er p13) [.Is] [.Constant .none j2 p14] p15) (.Name fo p16) (.Call (.Name fl p17) [.Name er p18] [] p19) p20)) z6] a q (TTold X.K C CS fl) := by
  intro f c' s H Q tl act hc h
  obtain ⟨fa, fd, ps, m1, _, m2, m3, F, m4⟩ := ok
  let Y : Cx := (cxOf C8.CX0 X.prog X.w X.K X.mg X.base [a, er, fo, en] x sg g cdg X.A X.stack s H C8.E0).nox
  have hrY : Room k Y.A := (Room.mono hr (by omega : k + 1 ≤ k + 2)).deeper _
  have ps : Passes (L2.CX X.prog X.w) Y (fun _ _ _ => False) := passes_call (X := Y) LamX.takes0 fun _ _ _ _ h => h
  have s1 : PS Y (.Assign [.Name er p1] (.Constant .none j1 p2) z1) _ := ps_set (X := Y) (i := 1) nd rfl (.inl ler) pe_non (by rfl) (.inl rfl)
  have s2 : PS Y (.Assign [.Name fo p3] (.List [] p4) z2) _ := ps_set (X := Y) (i := 2) nd rfl (.inl lfo) (pe_lst pa_nil) (by rfl) (.inl rfl)
  have vr : PE Y (.Name er p13) _ := pe_var (i := 1) rfl (.inl ler) der cer
  have vr2 : PE Y (.Name er p18) _ := pe_var (i := 1) rfl (.inl ler) der cer
  have vf : PE Y (.Name fo p16) _ := pe_var (i := 2) rfl (.inl lfo) dfo cfo
  have cl : PE Y (.Call (.Name fl p17) [.Name er p18] [] p19) _ := pe_fnG (X := Y) F m1 m2 m3 hrY hgd ps (pa_cons vr2 pa_nil) gF dF
  have s4 : PS Y (.Return (some (.IfExp (.Compare (.Name er p13) [.Is] [.Constant .none j2 p14] p15) (.Name fo p16) (.Call (.Name fl p17) [.Name er p18] [] p19) p20)) z6) _ :=
    ps_ret (pe_ifExp (pt_cmpR op_isN vr pe_non rfl) vf cl)
  let tb : WX → TS := fun W D σ H => ∃ (Ech : XK) (Q0 : VK), (∀ cls d (σ' : L2.St) H', σ'.length = 4 → Ech cls d H' → W cls d σ' H') ∧ σ[0]? = some (some (.ref f)) ∧ H c' = some (LamX.CodeO c' q) ∧ tl Ech H Q0 ∧
    ∀ v H', Q0 v H' → ∀ q0, H' q0 = none → D.nx (σ.set 2 (some (.ref q0))) (upd H' q0 (.lst [v]))
  have s3 := ps_try_keep (X := Y) (x := W) (n := en) (c := .ref CS) (i := 3) (np := p9) (pos := z5) (pos' := p12) (body := [.Assign [.Name fo p5] (.List [.Call (.Name a p6) [] [] p7] p8) z3]) (b₀ := .Assign [.Name er p10] (.Name en p11) z4) (suite := [])
    (tb := tb) (ts := fun _ _ _ => tAsg (tVar 3) (gName 1)) rfl rfl rfl nd rfl len ⟨gW, dW, .inl mW⟩ LamX.takes0
    (fun W pn xe tk _ => by
      refine pss_one ⟨fun pins s' σ H D I h' => ?_⟩
      obtain ⟨Ech, Q0, hW, h1, h2, h3, h4⟩ := h'
      have hp := act (fun c d σ H => σ.length = Y.N.length → W c d σ H) pn xe Ech p6 p7 (takes_len tk) (fun cls d σ' H' e l => hW cls d σ' H' l e)
      have hp2 : PE (Y.tr pn xe) (.Call (.Name a p6) [] [] p7) (fun σZ HZ Q => ∃ Q0 : VK, (σZ[0]? = some (some (.ref f)) ∧ HZ c' = some (LamX.CodeO c' q) ∧ tl Ech HZ Q0) ∧ ∀ v H', Q0 v H' → Q v H') :=
        ⟨fun pins s σ H Q I ⟨Q0, w, m⟩ => thn (hp.run pins s σ H Q0 I w) fun u s1 ⟨v, H1, I1, r1, q1⟩ => ⟨v, H1, I1, r1, m v H1 q1⟩⟩
      exact (ps_set (X := Y.tr pn xe) (i := 2) nd rfl (.inl lfo) (pe_lst (pa_cons hp2 pa_nil)) (by rfl) (.inl rfl)).run pins s' σ H D I ⟨Q0, ⟨h1, h2, h3⟩, fun v H' hq => ⟨by show 1 ≤ sizeLine; rw [sizeLine_eq]; omega, fun q0 hq0 => h4 v H' hq q0 hq0⟩⟩)
    (fun a' oe cls d pn _ _ => pss_one (ps_set (X := Y.suite a' ((a', oe) :: pn)) (i := 1) nd rfl (.inl ler) (pe_var (i := 3) rfl (.inl len) den cen) (by rfl) (.inl rfl)))
  refine ⟨_, pss_cons s1 (pss_cons s2 (pss_cons s3 (pss_one s4))), ?_⟩
  refine ⟨by show 0 ≤ sizeLine; exact Nat.zero_le _, fun p hp => ?_⟩
  refine ⟨_, _, fun cls d σ' H' hl hE => ?_, rfl, ?_, h p hp, fun v H' hq q0 hq0 => ?_⟩
  · obtain ⟨b, e1, e2, e3⟩ := hE
    refine ⟨b, e1, fun hb a' na => ?_, fun hb => e3 hb⟩
    match σ', hl with
    | [w0, w1, w2, w3], _ =>
      refine ⟨.ref a', rfl, ?_⟩
      refine ⟨.ref a', rfl, rfl, ?_⟩
      exact ⟨false, congrArg V.bl (decide_eq_false fun z => nomatch z), ⟨.ref a', rfl, spM_len m4 (e2 hb a' na)⟩⟩
  · rw [upd_ne (ne_of_none hc hp)]; exact hc
  · exact ⟨.non, rfl, rfl, true, congrArg V.bl (decide_eq_true rfl), .ref q0, rfl, hq q0 hq0⟩
end Mi
/-! MiTold0: a lambda is made: no table but the old ones. -/
namespace Mi
open PySem PySem.Spec PyProof.Rows L2 LamX
/-- what becomes of the tables when a lambda is made: all else stays; no new table -/
structure Made (T : List (Addr × Str)) (H H1 : Hp) : Prop where
  ext : ExtN H H1
  tabs : Tabs T H1
  old : ∀ b ps, H1 b = some (.tbl ps) → ∃ ps', H b = some (.tbl ps')
section
variable {X : Cx} {pins : List (Addr × Obj)} {σ : L2.St} {H : Hp} {s : Shared}
theorem lam_made {T : List (Addr × Str)} {c P : Addr} {params : Arguments} {body : Expr} {scope : Scope} {pos : Pos} {E : Value → Shared → Prop} {Q : Value → Shared → Prop} (I : Inv X pins σ H s) (TB : TabB X.base X.mg c P) (hcode : X.env.code = .ref c)
    (hm : (P, X.env.qual ++ "<lambda>") ∈ T) (hu : ∀ p ∈ T, p.1 = P → p.2 = X.env.qual ++ "<lambda>") (hT : Tabs T H) (hdef : defaultsOf params X.env = ([], [])) (hfree : ∀ y ∈ scope.names, y.2 = .free → ∃ c, X.env.cells.lookup y.1 = some c)
    (h : ∀ (f c' : Addr) (pm ctv : Value) (H1 : Hp) (s' : Shared), Inv X pins σ H1 s' → Made T H H1 →
      s'.heap.get? f = some (PySem.W.kla_obj "<lambda>" (X.env.qual ++ "<lambda>") params body scope (cloFrom X.env.cells scope.names []) pm c' ctv) → H1 f = none → f ∉ frs X.stack → H1 c' = some (CodeO c' (X.env.qual ++ "<lambda>")) → Q (.ref f) s') :
    wpAny (model X.prog X.w) X.A (eval (.Lambda params body scope pos) X.env) Q E s := by
  obtain ⟨ps, tP, tOk, tAll⟩ := hT _ hm
  have gP : s.heap.get? P = some { cls := .none, data := .fields ps } := I.hok P _ tP
  have above : ∀ f, s.heap.objs.size ≤ f → f ∉ frs X.stack := fun f hf z => by
    rcases List.mem_cons.mp (I.stkSub _ z) with e | e
    · have := I.lt
      rw [e] at hf
      exact absurd (Nat.lt_of_lt_of_le this hf) (Nat.lt_irrefl _)
    · exact I.nofs hf e
  refine PySem.W.kla_eval hdef ?_
  cases known : codeAmong pos ps.toList with
  | some cv =>
    obtain ⟨c', rfl, hco⟩ := tAll pos cv known
    refine PySem.W.kla_makeFunctionHit (mg := X.mg) (c := c) (P := P) (ps := ps) (closure_ok hfree) I.ok.glob (I.mod.glob.keeps I.bk) hcode (TB.code.keeps I.bk) gP tOk known (TB.bm.keeps I.bk) fun ctv h' tk hx hsz => ?_
    exact h h'.objs.size c' ((X.mg "__name__").getD .none) ctv H _ (I.kept fun b o e => Heap.get?_push_of_some _ (hx b o e)) ⟨ExtN.refl H, hT, fun b ps e => ⟨ps, e⟩⟩ (Heap.get?_push_size _ rfl) (I.hok.fresh hsz) (above _ hsz) hco
  | none =>
    refine PySem.W.kla_makeFunction (mg := X.mg) (c := c) (P := P) (ps := ps) (closure_ok hfree) I.ok.glob (I.mod.glob.keeps I.bk) hcode (TB.code.keeps I.bk) gP tOk known TB.gP (TB.bm.keeps I.bk) fun c' ctv h' tk hx hge hlt hrec htb => ?_
    obtain ⟨c2, oc, vs, t, e2, hoc, hd, hv⟩ := hrec
    cases e2
    have hsz : s.heap.objs.size ≤ h'.objs.size := Nat.le_trans hge (Nat.le_of_lt hlt)
    have nC : H c' = none := I.hok.fresh hge
    have nPC : P ≠ c' := ne_of_none tP nC
    have I1 := inv_table (t' := tk) (more := #[rawInt pos.line, rawInt pos.col, .ref c']) (h' := h'.push (PySem.W.kla_obj "<lambda>" (X.env.qual ++ "<lambda>") params body scope (cloFrom X.env.cells scope.names []) ((X.mg "__name__").getD .none) c' ctv)) I tP
      (fun b o hb e => Heap.get?_push_of_some _ (hx b o hb e)) (Heap.get?_push_of_some _ htb) hge ⟨oc, vs, t, Heap.get?_push_of_some _ hoc, hd, hv⟩
    have other : ∀ b, b ≠ P → b ≠ c' → (upd (upd H P (.tbl (ps ++ #[rawInt pos.line, rawInt pos.col, .ref c']))) c' (CodeO c' (X.env.qual ++ "<lambda>"))) b = H b := fun b n1 n2 => by rw [upd_ne n2, upd_ne n1]
    have ext : ExtN H (upd (upd H P (.tbl (ps ++ #[rawInt pos.line, rawInt pos.col, .ref c']))) c' (CodeO c' (X.env.qual ++ "<lambda>"))) := fun b o e n => by
      rw [other b (fun z => n ps (Option.some.inj (e.symm.trans (by rw [z]; exact tP)))) (ne_of_none e nC)]
      exact e
    have grown : (ps ++ #[rawInt pos.line, rawInt pos.col, .ref c']).toList = ps.toList ++ [rawInt pos.line, rawInt pos.col, .ref c'] := by simp
    refine h h'.objs.size c' ((X.mg "__name__").getD .none) ctv _ _ I1 ⟨ext, fun p hp => ?_, fun b qs e => ?_⟩ (Heap.get?_push_size _ rfl) ?_ (above _ hsz) upd_same
    · by_cases hb : p.1 = P
      · rw [hu p hp hb, hb]
        refine ⟨_, by rw [upd_ne nPC, upd_same], by rw [grown]; exact PySem.TriplesOk_snoc _ _ _ _ tOk, fun p' cv hcv => ?_⟩
        rw [grown] at hcv
        rcases among_app _ tOk hcv with z | z
        · obtain ⟨c0, e1, e2⟩ := tAll p' cv z
          exact ⟨c0, e1, ext _ _ e2 codeO_ne⟩
        · exact ⟨c', z, upd_same⟩
      · obtain ⟨qs, a1, a2, a3⟩ := hT p hp
        refine ⟨qs, by rw [other _ hb (ne_of_none a1 nC)]; exact a1, a2, fun p' cv hcv => ?_⟩
        obtain ⟨c0, e1, e2⟩ := a3 p' cv hcv
        exact ⟨c0, e1, ext _ _ e2 codeO_ne⟩
    · by_cases b1 : b = c'
      · rw [b1, upd_same] at e
        exact absurd (Option.some.inj e) (codeO_ne qs)
      · by_cases b2 : b = P
        · exact ⟨ps, by rw [b2]; exact tP⟩
        · rw [other b b2 b1] at e
          exact ⟨qs, e⟩
    · rw [other _ (Nat.ne_of_gt (Nat.lt_of_lt_of_le (Heap.lt_size gP) hsz)) (Nat.ne_of_gt hlt)]
      exact I.hok.fresh hsz
end
/-- the reading of x(lambda: ..) -/
def tMade (T : List (Addr × Str)) (TT : (XK → Hp → VK → Prop) → Hp → VK → Prop) (t : XK → TE) : TE := fun σ H Q => Tabs T H ∧ ∀ H1, Made T H H1 → TT (fun E H' Q' => t E σ H' Q') H1 Q
end Mi
/-! MiTold3: a lambda handed over, where nothing is being shown. -/
namespace Mi
open PySem PySem.Spec PyProof.Rows L2 LamX
section
variable {X : Cx} {pins : List (Addr × Obj)} {σ : L2.St} {H : Hp} {s : Shared}
/-- the lambda called by the def that got it -/
theorem act_guard {Ng : List Str} {qg : Str} {sg : Scope} {g f c' : Addr} {cdg pm ctv : Value} {params : Arguments} {body : Expr} {scope : Scope} {k i : Nat} {a : Str} {pn : List (Addr × Obj)} {xe : Value → Shared → Prop} {W : WX} {E : XK} {tb : TE} {p1 p2 : Pos}
    (I : Inv X pins σ H s) (L : LamS X.env.scope scope) (hf : s.heap.get? f = some (PySem.W.kla_obj "<lambda>" (X.env.qual ++ "<lambda>") params body scope (cloFrom X.env.cells scope.names []) pm c' ctv)) (hfn : H f = none) (hfr : f ∉ frs X.stack)
    (hbind : bindArgs (PySem.W.kla_fn "<lambda>" (X.env.qual ++ "<lambda>") params body scope (cloFrom X.env.cells scope.names []) pm (.ref c') ctv) ⟨[], []⟩ = pure [])
    (tk : Takes ((cxOf C8.CX0 X.prog X.w X.K X.mg X.base Ng qg sg g cdg X.A X.stack s H C8.E0).tr pn xe) W) (hW : ∀ cls d σ' H', E cls d H' → W cls d σ' H') (hr : Room (k + 1) (X.A.deeper (envOfC qg sg s.heap.objs.size g cdg))) (hgd : X.A.guards = some [])
    (hbody : ∀ (A : Around) (outer : List Env) (s : Shared) (H : Hp), Room k (A.deeper (lamEnv X scope s.heap.objs.size f c')) → A.guards = some [] → PE (lamCx X A outer s H E scope f c') body tb)
    (hN : Ng[i]? = some a) (hv : Vis sg a) (hd : (a == ("__debug__" : Str)) = false) (hcd : (a == ("__classdict__" : Str)) = false) :
    PE ((cxOf C8.CX0 X.prog X.w X.K X.mg X.base Ng qg sg g cdg X.A X.stack s H C8.E0).tr pn xe) (.Call (.Name a p1) [] [] p2)
      (fun σZ HZ Q => σZ[i]? = some (some (.ref f)) ∧ HZ c' = some (CodeO c' (X.env.qual ++ "<lambda>")) ∧ tb σ HZ Q) := by
  refine ⟨fun pinsZ sZ σZ HZ Q IZ ⟨hs, hc, ht⟩ => ?_⟩
  have name := (pe_var (X := (cxOf C8.CX0 X.prog X.w X.K X.mg X.base Ng qg sg g cdg X.A X.stack s H C8.E0).tr pn xe) (pos := p1) (i := i) hN hv hd hcd).run pinsZ sZ σZ HZ (fun v H1 => v = .ref f ∧ H1 = HZ) IZ ⟨.ref f, hs, rfl, rfl⟩
  refine wpAny_Call_Name_kw (thn name fun u s1 ⟨v, H1, I1, r1, ev, eH⟩ => ?_)
  subst ev eH
  obtain rfl : u = Value.ref f := r1
  have of1 := I1.base.keep f _ hf hfn hfr (fun z => nomatch (show f ∈ ([] : List Addr) from z))
  refine PySem.W.callWith_F0 ⟨_, _, _, _, of1⟩ (wpAny_call ?_)
  obtain ⟨⟨oc, vs, t, hoc, hdc, hvc⟩, _, _⟩ := I1.hok c' _ hc
  have go : codeAny (model X.prog X.w) (X.A.deeper (envOfC qg sg s.heap.objs.size g cdg)) (.call (.ref f) ⟨[], []⟩) (CR (L2.CX X.prog X.w) (envOfC qg sg s.heap.objs.size g cdg :: X.stack) X.prog X.w H1 s1 Q E) s1 := by
    refine PySem.W.kla_callFunE hr.depth of1 rfl L.co L.gen rfl ⟨c', oc, vs, t, rfl, hoc, hdc, hvc⟩ ?_
    rw [hbind]
    refine wpAny_pure (wpAny_newFunctionEnv (fun y hy => (L.own y hy).2) (fun y hy => absurd hy (by simp)) (fun h1 hns hsb => ⟨I1.nolimit.fresh _ hsb, ?_⟩) L.kind)
    have kp : ∀ b o, s1.heap.get? b = some o → h1.get? b = some o := fun b o e => hsb.extBut b o (Nat.ne_of_lt (Heap.lt_size e)) (Heap.get?_push_of_some _ e)
    have J : Inv (lamCx X (X.A.deeper (envOfC qg sg s.heap.objs.size g cdg)) (envOfC qg sg s.heap.objs.size g cdg :: X.stack) s1 H1 E scope f c') [] σ H1 { s1 with heap := h1, toks := s1.toks + ([] : List (Str × Value)).length } :=
      lam_start2 I L I1.env0 hr.hd I1.base hns kp
    exact PySem.W.kla_codeExpr (wpAny_mono ((hbody _ _ s1 H1 (hr.deeper _) hgd).run [] _ _ H1 Q J ht) (fun v s' ⟨w', H', J', rv, q⟩ => ⟨w', H', J'.os, J'.bare, J'.base, J'.hok, rv, q⟩) fun e s' hq => hq)
  refine codeAny_mono go fun r s' hq => ?_
  match r, hq with
  | .error e, hq => exact passes_call tk hW pinsZ σZ H1 s1 e s' I1 hq
  | .ok (.ret u), hq => exact I1.after hq
  | .ok .next, hq => exact hq.elim
  | .ok .brk, hq => exact hq.elim
  | .ok .cont, hq => exact hq.elim
end
section
variable {X : Cx}
/-- x(lambda: body) -/
theorem pe_lamG {T : List (Addr × Str)} {TT : (XK → Hp → VK → Prop) → Hp → VK → Prop} {x a : Str} {g c P : Addr} {k : Nat} {pg : Arguments} {bg : List Stmt} {sg : Scope} {dV kV doc pm cdv ct oc : Value} {an od : Option Addr} {osl : Array (Option Value)} {Ng : List Str}
    {params : Arguments} {body : Expr} {scope : Scope} {t : XK → TE} {p lpos pos : Pos} (hg : Gl X x) (hm : X.mg x = some (.ref g)) (hk : PySem.W.keepIn X.K (.ref g) = true)
    (lk : X.K.lookup g = some ⟨oc, od, .func (PySem.W.fnOf x x pg bg sg dV kV doc pm an cdv ct), osl⟩) (hcg : PySem.W.codeIn X.K cdv x = true) (hb : L2.Binds X.K (PySem.W.fnOf x x pg bg sg dV kV doc pm an cdv ct) [a] []) (Sg : FnScope Ng [a] sg) (hNg : Ng[0]? = some a) (hva : Vis sg a)
    (hG : GivesTo X Ng x sg g cdv bg a (X.env.qual ++ "<lambda>") TT) (hgd : X.A.guards = some [])
    (TB : TabB X.base X.mg c P) (hcode : X.env.code = .ref c) (hmT : (P, X.env.qual ++ "<lambda>") ∈ T) (hu : ∀ p ∈ T, p.1 = P → p.2 = X.env.qual ++ "<lambda>") (hr : Room (k + 2) X.A) (L : LamS X.env.scope scope) (hdef : defaultsOf params X.env = ([], []))
    (hbind : ∀ (q : Str) (cl : List (Str × Addr)) (pm cv ctv : Value), bindArgs (PySem.W.kla_fn "<lambda>" q params body scope cl pm cv ctv) ⟨[], []⟩ = pure [])
    (hbody : ∀ (A : Around) (outer : List Env) (s : Shared) (H : Hp) (E : XK) (f c' : Addr), Room k (A.deeper (lamEnv X scope s.heap.objs.size f c')) → A.guards = some [] → PE (lamCx X A outer s H E scope f c') body (t E))
    (hdb : (x == ("__debug__" : Str)) = false) (hd : (a == ("__debug__" : Str)) = false) (hcd : (a == ("__classdict__" : Str)) = false) :
    PE X (.Call (.Name x p) [.Lambda params body scope lpos] [] pos) (tMade T TT t) := by
  refine ⟨fun pins s σ H Q I ⟨hT, h⟩ => ?_⟩
  refine wpAny_Call_Name_kw (ld_glob I hg hm ?_ hdb)
  refine PySem.W.callWith_K (h₀ := X.base) I.ok.mod.kin hk ?_ (by rfl) (by rfl)
  show wpAny _ _ (spliced ((false, eval (.Lambda params body scope lpos) X.env) :: backTo pos (starEach [] X.env))) _ _ s
  refine Calls.spliced_cons (lam_made I TB hcode hmT hu hT hdef (L.has I.ok) fun f c' pm' ctv H1 s' I1 md hf hfn hfr hco => Calls.spliced_nil ⟨I1.kIn, wpAny_call ?_⟩)
  have rc : codeAny (model X.prog X.w) X.A (.call (.ref g) ⟨[.ref f], []⟩) (CR C8.CX0 X.stack X.prog X.w H1 s' Q C8.E0) s' :=
    run_ofS (N := Ng) (ps := [a]) (us := [.ref f]) (vs := [.ref f]) lk hcg Sg hr I1.env0 (hb s' [.ref f] I1.kIn rfl) (.cons rfl .nil) rfl fun hr' =>
      let ⟨t', ht', q⟩ := hG f c' s' H1 Q (fun E H' Q' => t E σ H' Q') (fun W pn xe E p1 p2 tk hW => act_guard (i := 0) I1 L hf hfn hfr (hbind _ _ _ _ _) tk hW hr' hgd (fun A outer s H hr2 hg2 => hbody A outer s H E f c' hr2 hg2) hNg hva hd hcd) hco (h H1 md)
      ⟨t', ht'.nox, q⟩
  refine codeAny_mono rc fun r s2 hq => ?_
  match r, hq with
  | .error e, hq => exact (show False from hq).elim
  | .ok (.ret u), hq => exact I1.after hq
  | .ok .next, hq => exact hq.elim
  | .ok .brk, hq => exact hq.elim
  | .ok .cont, hq => exact hq.elim
end
end Mi
/-! MiTold4: told in the small language. -/
namespace Mi
open PySem PySem.Spec PyProof.Rows L2 LamX
variable [Tb]
theorem made_cfg {K : PySem.W.Frag} {c : Cfg} {h : Hh} {H1 : Hp} (wf : WF K c h) (md : Made (Tb.T K) c.H H1) : Le c { c with H := H1 } ∧ WF K { c with H := H1 } h := by
  have le : Le c { c with H := H1 } := by
    refine ⟨⟨Nat.le_refl _, fun _ _ => rfl, fun _ z => z, fun a o hF e => ?_, fun a _ e => md.ext a _ e (fun _ z => by cases z), fun a _ _ e => md.ext a _ e (fun _ z => by cases z), fun a _ e => md.ext a _ e (fun _ z => by cases z), fun a _ e => md.ext a _ e (fun _ z => by cases z)⟩,
      fun _ z => .inl z, fun k h1 h2 => absurd (Nat.lt_of_lt_of_le h2 h1) (Nat.lt_irrefl _), fun a o e _ nt => md.ext a o e nt, fun a e => ?_⟩
    · obtain ⟨vs, q⟩ := wf.fl a hF
      rw [q] at e; cases e
      exact md.ext a _ q (fun _ z => by cases z)
    · show H1 a ≠ none
      obtain ⟨o, q⟩ := Option.ne_none_iff_exists'.mp e
      by_cases t : ∃ ps, o = .tbl ps
      · obtain ⟨ps, rfl⟩ := t
        obtain ⟨n, hn⟩ := wf.tabs.all a ps q
        obtain ⟨ps', z, _⟩ := md.tabs _ hn
        rw [show H1 a = _ from z]; simp
      · rw [md.ext a o q (fun ps z => t ⟨ps, z⟩)]; simp
  refine ⟨le, ⟨md.tabs, fun P ps e => ?_⟩, wf.sz, fun k o hk => ?_, wf.inj, wf.nF, fun a ha => ?_⟩
  · obtain ⟨ps', e'⟩ := md.old P ps e
    exact wf.tabs.all P ps' e'
  · have q := wf.obj k o hk
    have e : H1 (c.r k) = c.H (c.r k) := by
      cases o with
      | lst l => obtain ⟨vs, z, _⟩ := q; rw [z]; exact md.ext _ _ z (fun _ z => by cases z)
      | dct l => obtain ⟨vs, z, _⟩ := q; rw [z]; exact md.ext _ _ z (fun _ z => by cases z)
    show RelO K _ o (H1 (c.r k))
    rw [e]
    exact RelO.mono le.toSta _ _ q
  · obtain ⟨vs, q⟩ := wf.fl a ha
    exact ⟨vs, md.ext a _ q (fun _ z => by cases z)⟩
section
variable {X : Cx} {EW : EWish} {C : Calls'} {G : Str → Option D}
theorem told_red {fl : Str} {m : E} {CS : Addr} (xf : XFacts X.K) (hCS : glA X.K "WayError" = some CS) : ∀ σ H Q, tE X.K EW C G (.told fl m) σ H Q → tMade (Tb.T X.K) (TTold X.K C CS fl) (fun E => tE X.K (ofE X.K E) C G m) σ H Q := fun σ H Q w => by
  obtain ⟨He, c, h, env, rfl, wf, re, p⟩ := w
  unfold evalE at p
  refine ⟨wf.tabs.good, fun H1 md p0 hp0 => ?_⟩
  obtain ⟨le1, wf1⟩ := made_cfg wf md
  have le2 := put_le wf1 (p := p0) hp0 (.lst [])
  have wf2 := put_wf wf1 (p := p0) hp0 (.lst [])
  have le := le1.trans le2
  refine ⟨He, _, h, env, rfl, wf2, RelEnv.mono le re, ?_⟩
  cases e : evalE C G m env h with
  | bad => rw [e] at p; exact p
  | ok r h1 =>
    rw [e] at p
    intro c' v l' w' rr q hq
    cases ez : r.fz with
    | none => simp only [ez] at p; exact p.elim
    | some d =>
      simp only [ez] at p
      obtain ⟨c3, e3, l3, st3, wf3, r3⟩ := freeze_ans l' w' rr ez
      rw [← e3] at hq ⊢
      exact PostE.newL wf3 hq (RelDs.one r3) (PostE.lift (le.trans l3) p)
  | ex x h1 =>
    rw [e] at p
    intro c' l' w' cls d rx
    obtain ⟨hx, D, gD, rfl, hf⟩ := rx
    refine ⟨true, xf.exm x.cls D CS hx gD hCS, fun _ a na => ?_, fun z => by cases z⟩
    have l3 := put_le w' (p := a) na (XO a (.ref D) d)
    have w3 := put_wf w' (p := a) na (XO a (.ref D) d) (by intro _ z; unfold XO at z; cases z)
    refine ⟨rfl, _, h1, [.sp true x.cls x.fs], rfl, w3, RelDs.one ?_, ?_⟩
    · unfold RelD
      refine ⟨D, gD, ?_⟩
      rw [if_pos rfl]
      refine ⟨a, d, rfl, upd_same, ?_⟩
      rcases hf with hf | ⟨dd, fs, vs, q1, q2, q3, q4⟩
      · exact .inl hf
      · exact .inr ⟨dd, fs, vs, q1, l3.toSta.xds _ _ q2, RelDs.mono l3.toSta _ _ q3, q4⟩
    · have p' : PostE X.K EW _ Q (noEx (C fl [.sp true x.cls x.fs] h1)) := PostE.lift ((le.trans l').trans l3) p
      revert p'
      cases C fl [.sp true x.cls x.fs] h1 with
      | bad => exact fun z => z
      | ok r g => exact fun z => z
      | ex y g => exact fun z => (show False from z).elim
end
end Mi
/-! MiTold5: told and calls by a name, as expressions of the small language. -/
namespace Mi
open PySem PySem.Spec PyProof.Rows L2 LamX
variable [Tb]
section
variable {X : Cx} {EW : EWish} {k : Nat} {C : Calls'} {G : Str → Option D} {T : Tab} {bs : List Str}
/-- what a lambda's body may lean on -/
theorem Has.lam (h : Has X EW k C G T bs) {A : Around} {outer : List Env} {s : Shared} {H : Hp} {E : XK} {scope : Scope} {f c' : Addr} (hr : Room k (A.deeper (lamEnv X scope s.heap.objs.size f c'))) (hgd : A.guards = some []) :
    Has (lamCx X A outer s H E scope f c') (ofE X.K E) k C G T bs :=
  ⟨hr, hgd, h.glob, h.call, h.blt, (takes_of (X := lamCx X A outer s H E scope f c') (E := E) rfl rfl rfl rfl).imp fun _ _ _ _ ⟨_, _, _, e, _, r, q⟩ => by
    rw [← e]
    exact q _ _ r, h.nul⟩
/-- the form of told -/
def ToldS (st : Stmt) (a er fo en W fl : Str) : Prop := ∃ (j1 j2 : Nat) (p1 p2 p3 p4 p5 p6 p7 p8 p9 p10 p11 p12 p13 p14 p15 p16 p17 p18 p19 p20 z1 z2 z3 z4 z5 z6 : Pos), defBody st =
  [.Assign [.Name er p1] (.Constant .none j1 p2) z1, .Assign [.Name fo p3] (.List [] p4) z2,
        .Try [.Assign [.Name fo p5] (.List [.Call (.Name a p6) [] [] p7] p8) z3] [.ExceptHandler (some (.Name W p9)) (some en) [.Assign [.Name er p10] (.Name en p11) z4] p12] [] [] z5,
        .Return (some (.IfExp (.Compare (.Name er p13) [.Is] [.Constant .none j2 p14] p15) (.Name fo p16) (.Call (.Name fl p17) [.Name er p18] [] p19) p20)) z6]
/-- what must be known of told -/
structure ToldN (st : Stmt) (a er fo en fl : Str) : Prop where
  sc : FnScope [a, er, fo, en] [a] (defScope st)
  fm : ToldS st a er fo en "WayError" fl
  va : Vis (defScope st) a
  nd : [a, er, fo, en].Nodup
  ler : (defScope st).names.lookup er = some .local
  lfo : (defScope st).names.lookup fo = some .local
  len : (defScope st).names.lookup en = some .local
  gW : (defScope st).names.lookup ("WayError" : Str) = some .globalImplicit
  gF : (defScope st).names.lookup fl = some .globalImplicit
  dF : (fl == ("__debug__" : Str)) = false
  da : (a == ("__debug__" : Str)) = false
  ca : (a == ("__classdict__" : Str)) = false
  der : (er == ("__debug__" : Str)) = false
  dfo : (fo == ("__debug__" : Str)) = false
  den : (en == ("__debug__" : Str)) = false
  cer : (er == ("__classdict__" : Str)) = false
  cfo : (fo == ("__classdict__" : Str)) = false
  cen : (en == ("__classdict__" : Str)) = false
structure ToldF (K : PySem.W.Frag) (mg : Str → Option Value) (x fl : Str) : Prop where
  ex : ∃ (g : Addr) (fd : FuncData) (st : Stmt) (a er fo en : Str) (CS : Addr), mg x = some (.ref g) ∧ Fun K x x st g fd ∧ Binds K fd [a] [] ∧ ToldN st a er fo en fl ∧ mg "WayError" = some (.ref CS) ∧ glA K "WayError" = some CS
/-- told(lambda: body) -/
theorem sim_told {x fl : Str} {d : Fn} {c P : Addr} {params : Arguments} {body : Expr} {scope : Scope} {m : E} {p lpos pos : Pos} (hs : HasB X EW k C G T bs) (hfl : T fl = some d) (tf : ToldF X.K X.mg x fl) (xf : XFacts X.K) (TB : TabB X.base X.mg c P) (hcode : X.env.code = .ref c)
    (hmT : (P, X.env.qual ++ "<lambda>") ∈ Tb.T X.K) (hu : ∀ p ∈ Tb.T X.K, p.1 = P → p.2 = X.env.qual ++ "<lambda>") (L : LamS X.env.scope scope)
    (hbody : ∀ (A : Around) (outer : List Env) (s : Shared) (H : Hp) (E : XK) (f c' : Addr), Has (lamCx X A outer s H E scope f c') (ofE X.K E) k C G T bs → PE (lamCx X A outer s H E scope f c') body (tE X.K (ofE X.K E) C G m))
    (hg : Gl X x := by rfl) (hdb : (x == ("__debug__" : Str)) = false := by decide) (hdef : defaultsOf params X.env = ([], []) := by rfl)
    (hbind : ∀ (q : Str) (cl : List (Str × Addr)) (pm cv ctv : Value), bindArgs (PySem.W.kla_fn "<lambda>" q params body scope cl pm cv ctv) ⟨[], []⟩ = pure [] := by intros; rfl) :
    PE X (.Call (.Name x p) [.Lambda params body scope lpos] [] pos) (tE X.K EW C G (.told fl m)) := by
  obtain ⟨g, fd, st, a, er, fo, en, CS, hm, F, hb, N, mW, gW⟩ := tf.ex
  obtain ⟨oc, od, kV, doc, pm, an, cdv, ct, osl, rfl, lk, hcd⟩ := F.ex
  obtain ⟨j1, j2, p1, p2, p3, p4, p5, p6, p7, p8, p9, p10, p11, p12, p13, p14, p15, p16, p17, p18, p19, p20, z1, z2, z3, z4, z5, z6, eb⟩ := N.fm
  have tg := told_gives (X := X) (C := C) (k := k) (a := a) (er := er) (fo := fo) (en := en) (W := "WayError") (fl := fl) (x := x) (q := X.env.qual ++ "<lambda>") (sg := defScope st) (g := g) (CS := CS) (cdg := cdv) (j1 := j1) (j2 := j2) (p1 := p1) (p2 := p2) (p3 := p3) (p4 := p4) (p5 := p5) (p6 := p6) (p7 := p7) (p8 := p8) (p9 := p9) (p10 := p10) (p11 := p11) (p12 := p12) (p13 := p13) (p14 := p14) (p15 := p15) (p16 := p16) (p17 := p17) (p18 := p18) (p19 := p19) (p20 := p20) (z1 := z1) (z2 := z2) (z3 := z3) (z4 := z4) (z5 := z5) (z6 := z6)
    hs.room2 hs.gd (hs.call fl d hfl) N.nd N.ler N.lfo N.len N.gW N.gF mW (by decide) N.dF N.der N.dfo N.den N.cer N.cfo N.cen
  rw [← eb] at tg
  exact (pe_lamG hg hm F.kp lk hcd hb N.sc rfl N.va tg hs.gd TB hcode hmT hu hs.room2 L hdef hbind (fun A outer s H E f c' hr2 hg2 => hbody A outer s H E f c' (hs.toHas.lam hr2 hg2)) hdb N.da N.ca).imp (told_red xf gW)
/-- a def called that a name holds -/
theorem sim_callv {x : Str} {e : Expr} {es : List Expr} {ms : Es} {p pos : Pos} (i : Nat) (hs : Has X EW k C G T bs) (hv : PE X (.Name x p) (tVar i)) (ha : PA X (e :: es) (tA X.K EW C G ms))
    (he : starEach (e :: es) X.env = (false, eval e X.env) :: starEach es X.env := by rfl) (hpl : (backTo pos (starEach es X.env)).any (·.1) = false := by rfl) :
    PE X (.Call (.Name x p) (e :: es) [] pos) (tE X.K EW C G (.callv i ms)) := by
  refine ⟨fun pins s σ H Q I w => ?_⟩
  obtain ⟨He, c, h, env, rfl, wf, re, p⟩ := w
  unfold evalE at p
  split at p
  · rename_i y l hi
    obtain ⟨v, e1, rv⟩ := re.val hi
    unfold RelD at rv
    obtain ⟨A, gA, rv⟩ := rv
    rw [if_neg (by decide)] at rv
    obtain ⟨rfl, kp⟩ := rv
    refine wpAny_Call_Name_kw (thn (hv.run pins s σ c.H (fun v H1 => v = .ref A ∧ H1 = c.H) I ⟨_, e1, rfl, rfl⟩) fun u s1 ⟨v', H1, I1, r1, ev, eH⟩ => ?_)
    subst ev
    rw [eH] at I1
    obtain rfl : u = Value.ref A := r1
    cases hT : T y with
    | none =>
      refine PySem.W.callWith_K (h₀ := X.base) I.ok.mod.kin kp (thn (ha.run pos pins s1 σ c.H (fun _ _ => False) I1 ⟨He, c, h, env, rfl, wf, re, ?_⟩) fun us s2 ⟨vs, H2, I2, r, q⟩ => q.elim) he hpl
      refine Post.bind p fun ds h1 c1 vs le1 wf1 r1 p1 => ?_
      rw [hs.nul y hT ds h1] at p1
      exact p1
    | some d =>
      obtain ⟨fa, fd, ps, h1, h1g, h2, h3, F, h4⟩ := hs.call y d hT
      have eA : fa = A := Option.some.inj (h1g.symm.trans gA)
      subst eA
      refine PySem.W.callWith_K (h₀ := X.base) I.ok.mod.kin kp (thn (ha.run pos pins s1 σ c.H _ I1 (call_red (f := y) (ms := ms) (EW := EW) (G := G) h4 σ c.H Q ⟨He, c, h, env, rfl, wf, re, by unfold evalE; exact p⟩)) fun us s2 ⟨vs, H2, I2, r, q⟩ => ⟨I2.kIn, ?_⟩) he hpl
      exact run_G F hs.room hs.gd h3 (passes_call hs.tk fun _ _ _ _ h => h) I2 r q
  · exact False.elim p
end
end Mi
/-! MiEx: what is known of the program's refusals, in one bundle. -/
namespace Mi
open PySem PySem.Spec PyProof.Rows L2 LamX
variable [Tb]
/-- the facts of the written part, as a look -/
def clsOk (K : PySem.W.Frag) (D : Addr) : Bool := decide (PySem.W.findIn K (.ref D) "__getattribute__" = some (some (.builtin "BaseException.__getattribute__"))) && decide (PySem.W.findIn K (.ref D) "__getattr__" = some none) &&
  decide (PySem.W.subIn K (.ref D) (.type "BaseException") = some true) && PySem.W.hasDictIn K D && decide (PySem.W.findIn K (.ref D) "__class__" = some (some (.builtin "object.__class__"))) &&
  decide (PySem.W.mroIn K D (.type "object") = some true)
def xfOk (K : PySem.W.Frag) : Bool := decide (PySem.W.specialIn K (.builtin "object.__class__") "__get__" = some (some (.builtin "getset_descriptor.__get__"))) && decide (PySem.W.takesIn K (.builtin "object.__class__") = some true) &&
  refusals.all fun k => match glA K k with
    | none => true
    | some D => clsOk K D && decide (PySem.W.kitOne K (.ref D) (.type "ValueError") = some true) &&
      (refusals.all fun c => match glA K c, isxF k c with
        | some C, some b => decide (PySem.W.kitOne K (.ref D) (.ref C) = some b)
        | _, _ => true) &&
      (match glA K "WayError" with
        | some CS => decide (PySem.W.exmOne K (.ref D) (.ref CS) = some true)
        | none => true) &&
      (fldN k).all fun f => decide (PySem.W.findIn K (.ref D) f = some none)
def exOk (K : PySem.W.Frag) (cl : List Str) : Bool := xfOk K && cl.all fun c => match glA K c with
  | none => false
  | some C => refusals.contains c && PySem.W.keepIn K (.ref C) && (!(fldN c).isEmpty || (PySem.W.excIn K C veB "ValueError.__new__" && decide (PySem.W.subIn K (.ref C) (.type "BaseException") = some true) && decide (PySem.W.typeIn K (.ref C) = some (.type "type"))))
theorem isxF_in {k c : Str} {b : Bool} (n : c ≠ "ValueError") (e : isxF k c = some b) : c ∈ refusals := by
  unfold isxF at e
  split at e
  · split at e
    · rename_i h
      rcases h with h | h
      · exact absurd h n
      · rw [h]; decide +kernel
    · split at e
      · rename_i h; simpa using h
      · cases e
  · cases e
theorem xf_of {K : PySem.W.Frag} (h : xfOk K = true) : XFacts K := by
  unfold xfOk at h
  simp only [Bool.and_eq_true, decide_eq_true_eq] at h
  obtain ⟨⟨hn, ht⟩, h⟩ := h
  have at_ : ∀ k D, refusals.contains k = true → glA K k = some D → clsOk K D = true ∧ PySem.W.kitOne K (.ref D) (.type "ValueError") = some true ∧ (∀ c C b, c ∈ refusals → glA K c = some C → isxF k c = some b → PySem.W.kitOne K (.ref D) (.ref C) = some b) ∧
      (∀ CS, glA K "WayError" = some CS → PySem.W.exmOne K (.ref D) (.ref CS) = some true) ∧ ∀ f ∈ fldN k, PySem.W.findIn K (.ref D) f = some none := fun k D hk hD => by
    have z := List.all_eq_true.mp h k (by simpa using hk)
    rw [hD] at z
    simp only [Bool.and_eq_true, decide_eq_true_eq] at z
    obtain ⟨⟨⟨⟨z1, z2⟩, z3⟩, z4⟩, z5⟩ := z
    refine ⟨z1, z2, fun c C b hc hC e => ?_, fun CS hC => ?_, fun f hf => ?_⟩
    · have q := List.all_eq_true.mp z3 c hc
      rw [hC, e] at q
      exact of_decide_eq_true q
    · rw [hC] at z4
      exact of_decide_eq_true z4
    · exact of_decide_eq_true (List.all_eq_true.mp z5 f hf)
  have cl : ∀ k D, refusals.contains k = true → glA K k = some D → ExcC K D := fun k D hk hD => by
    obtain ⟨z, _⟩ := at_ k D hk hD
    unfold clsOk at z
    simp only [Bool.and_eq_true, decide_eq_true_eq] at z
    obtain ⟨⟨⟨⟨⟨z1, z2⟩, z3⟩, z4⟩, z5⟩, z6⟩ := z
    exact ⟨z1, z2, z3, z4, z5, hn, ht, z6⟩
  refine ⟨cl, fun k D hk hD => (at_ k D hk hD).2.1, fun k c D C b n e hD hC => (at_ k D (isxF_ref e) hD).2.2.1 c C b (isxF_in n e) hC e, fun k D CS hk hD hC => (at_ k D hk hD).2.2.2.1 CS hC, fun k D f hf hD => ?_⟩
  have hk : refusals.contains k = true := by
    unfold fldN at hf
    split at hf
    · rename_i e; rw [e]; decide +kernel
    · split at hf
      · rename_i e; rw [e]; decide +kernel
      · simp at hf
  have c := cl k D hk hD
  exact ⟨⟨c.hg, c.hk, c.hs, c.hd⟩, (at_ k D hk hD).2.2.2.2 f (by simpa using hf)⟩
structure ExF (K : PySem.W.Frag) (mg : Str → Option Value) (cl : List Str) : Prop where
  xf : XFacts K
  gm : ∀ x C, glA K x = some C → mg x = some (.ref C)
  gl : ∀ c ∈ cl, ∃ C, glA K c = some C
  rz : ∀ c ∈ cl, fldN c = [] → ∃ C, Rz K mg c C
omit [Tb] in
theorem glA_mg {K : PySem.W.Frag} {h : Heap} {mg : Str → Option Value} (X : K.In h) (Gn : h.Ns mainGlobals mg) {x : Str} {C : Addr} (e : glA K x = some C) : mg x = some (.ref C) := by
  unfold glA at e
  split at e
  · rename_i a z
    cases e
    exact PySem.W.mg_of X Gn z
  · cases e
omit [Tb] in
theorem glA_of {K : PySem.W.Frag} {x : Str} {C : Addr} (e : PySem.W.nsIn K mainGlobals x = some (some (.ref C))) : glA K x = some C := by
  unfold glA
  rw [e]
theorem exF_of {K : PySem.W.Frag} {h : Heap} {mg : Str → Option Value} {cl : List Str} (X : K.In h) (Gn : h.Ns mainGlobals mg) (ok : exOk K cl = true) : ExF K mg cl := by
  unfold exOk at ok
  simp only [Bool.and_eq_true] at ok
  obtain ⟨o1, o2⟩ := ok
  have at_ : ∀ c ∈ cl, ∃ C, glA K c = some C ∧ PySem.W.keepIn K (.ref C) = true ∧ (fldN c = [] → PySem.W.excIn K C veB "ValueError.__new__" = true ∧ PySem.W.subIn K (.ref C) (.type "BaseException") = some true ∧ PySem.W.typeIn K (.ref C) = some (.type "type")) := fun c hc => by
    have z := List.all_eq_true.mp o2 c hc
    cases e : glA K c with
    | none => rw [e] at z; cases z
    | some C =>
      rw [e] at z
      simp only [Bool.and_eq_true, Bool.or_eq_true, Bool.not_eq_true', decide_eq_true_eq] at z
      refine ⟨C, rfl, z.1.2, fun hf => ?_⟩
      rcases z.2 with q | q
      · rw [hf] at q; cases q
      · exact ⟨q.1.1, q.1.2, q.2⟩
  refine ⟨xf_of o1, fun x C e => glA_mg X Gn e, fun c hc => (at_ c hc).imp fun C z => z.1, fun c hc hf => ?_⟩
  obtain ⟨C, e, k, z⟩ := at_ c hc
  obtain ⟨z1, z2, z3⟩ := z hf
  exact ⟨C, glA_mg X Gn e, e, k, z1, z2, z3⟩
section
variable {X : Cx} {EW : EWish} {k : Nat} {C : Calls'} {G : Str → Option D} {T : Tab} {bs cl : List Str} {ce : Cfg}
theorem sim_isx1 {e : Expr} {m : E} {p p2 pos : Pos} {c : Str} (ef : ExF X.K X.mg cl) (hm : X.mg "isinstance" = none) (he : PE X e (tE X.K EW C G m)) (hc : cl.contains c = true := by decide +kernel) (hne : c ≠ "ValueError" := by decide) (hg : Gl X "isinstance" := by rfl) (hg2 : Gl X c := by rfl)
    (hd2 : (c == ("__debug__" : Str)) = false := by decide)
    (hs : starEach [e, .Name c p2] X.env = (false, eval e X.env) :: starEach [.Name c p2] X.env := by rfl) (hs2 : starEach [.Name c p2] X.env = (false, eval (.Name c p2) X.env) :: starEach [] X.env := by rfl) (hpl : (backTo pos (starEach [.Name c p2] X.env)).any (·.1) = false := by rfl) :
    PE X (.Call (.Name "isinstance" p) [e, .Name c p2] [] pos) (tE X.K EW C G (.isx m c)) := by
  obtain ⟨A, hA⟩ := ef.gl c (by simpa using hc)
  exact sim_isx ef.xf he hm hA (ef.gm _ _ hA) hne hg hg2 hd2 hs hs2 hpl
theorem st_raise1 {x m : Str} {j : Nat} {p p1 p2 pos : Pos} (ef : ExF X.K X.mg cl) (hc : X.calm = true) (tk : Takes X fun cls d _ H => toE X.K EW cls d H) (hcl : cl.contains x = true := by decide +kernel) (hf : fldN x = [] := by decide +kernel) (hx : refusals.contains x = true := by decide +kernel) (hg : Gl X x := by rfl) (hdb : (x == ("__debug__" : Str)) = false := by decide) :
    PS X (.Raise (some (.Call (.Name x p) [.Constant (.str m) j p2] [] p1)) none pos) (tS X.K EW C G ce (.raise x .nil)) := by
  obtain ⟨A, R⟩ := ef.rz x (by simpa using hcl) hf
  exact st_raise R hc tk hx hg hdb
theorem sim_fnv1 {x : Str} {pos : Pos} (ok : CallsOk X.prog X.w X.K X.mg X.base k C x) (hg : Gl X x := by rfl) (hd : (x == ("__debug__" : Str)) = false := by decide) : PE X (.Name x pos) (tE X.K EW C G (.fnv x)) := by
  obtain ⟨fa, fd, ps, h1, h1g, h2, _⟩ := ok
  exact sim_fnv h2 h1g h1 hg hd
theorem toldF_of {K : PySem.W.Frag} {mg : Str → Option Value} {cl : List Str} (ef : ExF K mg cl) {x fl a er fo en : Str} {g : Addr} {st : Stmt} {fd : FuncData} (hm : mg x = some (.ref g)) (F : Fun K x x st g fd) (hb : Binds K fd [a] []) (N : ToldN st a er fo en fl) (hw : cl.contains "WayError" = true) : ToldF K mg x fl := by
  obtain ⟨CS, h⟩ := ef.gl "WayError" (by simpa using hw)
  exact ⟨g, fd, st, a, er, fo, en, CS, hm, F, hb, N, ef.gm _ _ h, h⟩
end
end Mi
/-! Mi9: the law's own call, the end of a row; tables of code objects. -/
namespace Mi
open PySem PySem.Spec PyProof.Rows L2
variable [Tb]

/-- the abstract heap at the law's entry: the script, if it is no object of the module, and the empty tables -/
def scriptH (a : Addr) (o : Obj) (ns : List Int) (yes : Bool) (ts : List Addr) : Hp := fun b => if b = a ∧ yes = true then some (.frz o (.lst (ns.map V.int))) else if b ∈ ts then some (.tbl #[]) else none
theorem scriptH_at {a : Addr} {o : Obj} {ns : List Int} {ts : List Addr} : scriptH a o ns true ts a = some (.frz o (.lst (ns.map V.int))) := if_pos ⟨rfl, rfl⟩
theorem scriptH_some {a b : Addr} {o : Obj} {ns : List Int} {yes : Bool} {ts : List Addr} {u : HO} (h : scriptH a o ns yes ts b = some u) : (b = a ∧ yes = true ∧ u = .frz o (.lst (ns.map V.int))) ∨ (b ∈ ts ∧ u = .tbl #[]) := by
  unfold scriptH at h
  split at h
  · rename_i z
    cases h
    exact .inl ⟨z.1, z.2, rfl⟩
  · split at h
    · rename_i z
      cases h
      exact .inr ⟨z, rfl⟩
    · cases h
theorem scriptH_tab {a b : Addr} {o : Obj} {ns : List Int} {yes : Bool} {ts : List Addr} (n : b ≠ a) (h : b ∈ ts) : scriptH a o ns yes ts b = some (.tbl #[]) := by
  unfold scriptH
  rw [if_neg (fun z => n z.1), if_pos h]
abbrev emptyO : Obj := { cls := .none, data := .fields #[] }
theorem lawG {P : Program} {w : World} {K : PySem.W.Frag} {mg mb : Str → Option Value} {k : Nat} {fa a : Addr} {sp : Sp} {s1 : Shared} {vs : List Value} {ns : List Int} {cs : List (Addr × Addr)}
    (KX : K.In s1.heap) (gns : s1.heap.Ns mainGlobals mg) (bns : s1.heap.Ns builtinsNs mb) (bb : ∀ x : Str, x ≠ "__name__" → mb x = bootBuiltins x) (lim : s1.heap.NoLimit) (gen : s1.gens = #[])
    (bmn : ∃ (bm : Addr) (ob : Obj), mg "__builtins__" = some (.ref bm) ∧ bm ≠ builtinsNs ∧ s1.heap.get? bm = some ob ∧ ob.cls = .type "module" ∧ ob.dict = some builtinsNs ∧ ob.data = .plain)
    (hT : ∀ p ∈ cs, s1.heap.get? p.2 = some emptyO) (nT : ∀ p ∈ cs, K.lookup p.2 = none) (hC : ∀ p ∈ cs, PySem.W.CodeHd s1.heap p.1 p.2)
    (ha : s1.heap.get? a = some { cls := .type "list", data := .seq vs.toArray }) (hi : IntsAre vs ns) (hl : ns.length ≤ sizeLine) (hr : Room k callerA)
    (F : ∀ base : Heap, K.In base → base.Ns mainGlobals mg → (∀ p ∈ cs, LamX.TabB base mg p.1 p.2) → ∃ (fd : FuncData) (x : Str), Binds K fd [x] [] ∧ FnG P w K mg base (L2.CX P w) k fa fd [x] sp)
    (hsp : ∀ H : Hp, ArgL K H a (ns.map V.int) → (∀ p ∈ cs, H p.2 = some (.tbl #[])) → (∀ b ps, H b = some (.tbl ps) → b ∈ cs.map (·.2)) → sp [.ref a] H (fun v _ => v = .bl true) fun _ _ _ => False) :
    codeAny (model P w) callerA (.call (.ref fa) ⟨[.ref a], []⟩) (fun r s' => r = .ok (.ret (.bool true)) ∧ OldK s1.heap s'.heap ∧ s'.os = s1.os ∧ AllBare s'.gens) s1 := by
  have rv := vals_ints hi
  obtain ⟨yes, hy⟩ : ∃ yes : Bool, (yes = true ↔ K.lookup a = none) := by
    cases h : K.lookup a with
    | none => exact ⟨true, by simp⟩
    | some o => exact ⟨false, by simp⟩
  let ob : Obj := { cls := .type "list", data := .seq vs.toArray }
  let ts := cs.map (·.2)
  let H := scriptH a ob ns yes ts
  have tab : ∀ b, b ∈ ts → s1.heap.get? b = some emptyO ∧ K.lookup b = none := fun b hb => by
    obtain ⟨p, hp, e⟩ := List.mem_map.mp hb
    subst e
    exact ⟨hT p hp, nT p hp⟩
  have na : ∀ b, b ∈ ts → b ≠ a := fun b hb z => by
    have q := (tab b hb).1
    rw [z, ha] at q
    cases q
  have hok : HOk P w H s1.heap := fun b u e => by
    rcases scriptH_some e with ⟨rfl, _, rfl⟩ | ⟨hb, rfl⟩
    · exact ⟨ha, by rw [List.length_map]; exact hl, vs, _, rv, ha⟩
    · exact (tab b hb).1
  have free : ∀ {b : Addr} {o : Obj}, s1.heap.get? b = some o → (∀ z n, o.data ≠ .seq z n) → o.data ≠ .fields #[] → H b = none := fun {b o} e d1 d2 => by
    cases q : H b with
    | none => rfl
    | some u =>
      rcases scriptH_some q with ⟨rfl, _, _⟩ | ⟨hb, _⟩
      · rw [ha] at e
        cases e
        exact absurd rfl (d1 _ _)
      · rw [(tab b hb).1] at e
        cases e
        exact absurd rfl d2
  have freeD : ∀ {b : Addr} {o : Obj} {es : Array DictEntry} {ep : Nat}, s1.heap.get? b = some o → o.data = .dict es ep → H b = none := fun {b o es ep} e d => free e (fun _ _ z => by rw [d] at z; cases z) fun z => by rw [d] at z; cases z
  have nsIn : ∀ {b : Addr} {m : Str → Option Value}, s1.heap.Ns b m → (hidT s1.heap H).Ns b m := fun {b m} ⟨o, es, ep, e, d, r⟩ => ⟨o, es, ep, hidT_get e (freeD e d), d, r⟩
  have Kb : K.In (hidT s1.heap H) := fun b o e => hidT_get (KX b o e) (by
    cases q : H b with
    | none => rfl
    | some u =>
      rcases scriptH_some q with ⟨rfl, z, _⟩ | ⟨hb, _⟩
      · rw [hy.mp z] at e
        cases e
      · rw [(tab b hb).2] at e
        cases e)
  have lim' : (hidT s1.heap H).NoLimit := by
    obtain ⟨mc, h1, h2⟩ := lim
    exact ⟨mc, nsIn h1, h2⟩
  have M : Mod K mg (hidT s1.heap H) := ⟨Kb, nsIn gns, ⟨mb, nsIn bns, bb⟩, lim'⟩
  have none_in : ∀ b, b ∉ frs ([] : List Env) := fun b z => by
    have z' : b ∈ ([] : List Addr) := z
    cases z'
  have e0 : Env0 P w K mg (hidT s1.heap H) callerA [] s1 H := ⟨rfl, M, fun b o e => of_hidT e, Nat.le_of_eq (hidT_size _ _), trivial, fun b z => absurd z (none_in b), hok, .of_eq gen⟩
  have arg : ArgL K H a (ns.map V.int) := by
    cases h : K.lookup a with
    | none =>
      have y : yes = true := hy.mpr h
      refine .inl ⟨ob, ?_⟩
      show scriptH a ob ns yes ts a = _
      rw [y]; exact scriptH_at
    | some o =>
      have e := KX a o h
      rw [ha] at e
      cases e
      exact .inr ⟨_, vs.toArray, _, h, rfl, rfl, rfl, by rw [List.size_toArray, hi.length]; exact hl, by simpa using rv⟩
  have memT : ∀ p ∈ cs, p.2 ∈ ts := fun p hp => List.mem_map.mpr ⟨p, hp, rfl⟩
  have TB : ∀ p ∈ cs, LamX.TabB (hidT s1.heap H) mg p.1 p.2 := fun p hp => by
    have eT := hT p hp
    have nG : mainGlobals ≠ p.2 := fun z => by
      obtain ⟨o, es, ep, e, d, _⟩ := gns
      rw [z, eT] at e
      cases e
      cases d
    refine ⟨?_, ?_, nG⟩
    · obtain ⟨o, us, file, tf, fl, tg, inF, tx, tt, e1, r1, r2, r3, r4⟩ := hC p hp
      refine ⟨o, us, file, tf, fl, tg, inF, tx, tt, hidT_get e1 (free e1 (fun _ _ z => by rw [r2] at z; cases z) fun z => ?_), r1, r2, r3, r4⟩
      rw [r2] at z
      cases z
      simp at r3
    · obtain ⟨bm, ob', b1, b2, b3, b4, b5, b6⟩ := bmn
      refine ⟨bm, ob', b1, b2, fun z => ?_, fun z => ?_, hidT_get b3 (free b3 (fun _ _ z => by rw [b6] at z; cases z) fun z => by rw [b6] at z; cases z), b4, b5, b6⟩
      · obtain ⟨o, es, ep, e, d, _⟩ := gns
        rw [z, e] at b3
        cases b3
        rw [d] at b6
        cases b6
      · rw [z, eT] at b3
        cases b3
        cases b6
  obtain ⟨fd, x, bt, FG⟩ := F _ Kb (nsIn gns) TB
  refine codeAny_mono (FG.run callerA [] s1 H ⟨[.ref a], []⟩ [.ref a] [.ref a] _ _ hr rfl e0 (bt s1 [.ref a] KX rfl) (.cons rfl .nil) (hsp H arg (fun p hp => scriptH_tab (na _ (memT p hp)) (memT p hp)) fun b ps e => ?_)) fun res s' z => ?_
  · rcases scriptH_some e with ⟨_, _, z⟩ | ⟨hb, _⟩
    · cases z
    · exact hb
  match res, z with
  | .error e, z => obtain ⟨_, _, _, _, _, _, _, _, _, _, _, _, z⟩ := z; exact z.elim
  | .ok .next, z => exact z.elim
  | .ok .brk, z => exact z.elim
  | .ok .cont, z => exact z.elim
  | .ok (.ret u), z =>
    obtain ⟨v, H', os, bare, un, hok', r', q⟩ := z
    have q : v = .bl true := q
    subst q
    have r' : u = Value.bool true := r'
    subst r'
    have same : ∀ b o, b ∉ ts → s1.heap.get? b = some o → s'.heap.get? b = some o := fun b o nb e => by
      cases q : H b with
      | none => exact un.keep b o e q (none_in b) (by simp)
      | some u =>
        rcases scriptH_some q with ⟨rfl, _, rfl⟩ | ⟨hb, _⟩
        · obtain ⟨g1, _⟩ := hok' _ _ (un.frzs _ _ _ q)
          rw [ha] at e
          cases e
          exact g1
        · exact absurd hb nb
    have more : ∀ b, b ∈ ts → ∃ xs : Array Value, s'.heap.get? b = some { cls := .none, data := .fields (#[] ++ xs) } := fun b hb => by
      obtain ⟨xs, z⟩ := un.tbls b #[] (scriptH_tab (na b hb) hb)
      exact ⟨xs, hok' b _ z⟩
    refine ⟨rfl, ⟨fun b o e => ?_, fun b o e => ?_⟩, os, bare⟩
    · by_cases hb : b ∈ ts
      · obtain ⟨xs, z⟩ := more b hb
        obtain ⟨p, hp, ep⟩ := List.mem_map.mp hb
        rw [(tab b hb).1] at e
        cases e
        subst ep
        exact .inr (.inl ⟨((hC p hp).tab (hT p hp)).isCodeTable, rfl, #[], xs, rfl, z⟩)
      · exact .inl (same b o hb e)
    · by_cases hb : b ∈ ts
      · obtain ⟨xs, z⟩ := more b hb
        exact ⟨_, z⟩
      · exact ⟨o, same b o hb e⟩
/-- the script as data -/
def scriptD (ns : List Int) : D := .arg (ns.map .int)
theorem rel_ints {K : PySem.W.Frag} {c : Cfg} : ∀ ns : List Int, RelDs K c (ns.map .int) (ns.map V.int)
  | [] => RelDs.nil
  | n :: ns => RelDs.cons (by unfold RelD; rfl) (rel_ints ns)
theorem no_wf {K : PySem.W.Frag} {H : Hp} {ts : List Addr} (hT : (Tb.T K).map (·.1) = ts) (h0 : ∀ b ∈ ts, H b = some (.tbl #[])) (hn : ∀ b ps, H b = some (.tbl ps) → b ∈ ts) : WF K ⟨H, fun _ => 0, fun _ => False, 0⟩ [] :=
  ⟨⟨fun p hp => LamX.TabS.nil (h0 _ (by rw [← hT]; exact List.mem_map_of_mem hp)), fun P ps e => by
    have z := hn P ps e
    rw [← hT] at z
    obtain ⟨p, hp, e⟩ := List.mem_map.mp z
    exact ⟨p.2, by rw [← e]; exact hp⟩⟩, rfl, fun k o e => by simp at e, fun j k h _ _ => absurd h (Nat.not_lt_zero _), fun k h _ => absurd h (Nat.not_lt_zero _), fun a h => h.elim⟩
/-- a def's code object, a code object's table, by the written part -/
def fnCode (K : PySem.W.Frag) (x : Str) : Addr := match glA K x with
  | some f => match K.lookup f with
    | some ⟨_, _, .func fd, _⟩ => match fd.code with
      | .ref c => c
      | _ => 0
    | _ => 0
  | none => 0
def codeTab (K : PySem.W.Frag) (c : Addr) : Addr := match K.lookup c with
  | some ⟨_, _, .fields vs, _⟩ => match (vs[11]? : Option Value) with
    | some (.ref P) => P
    | _ => 0
  | _ => 0
/-- the tables of the defs xs -/
def tabsOf (xs : List Str) (K : PySem.W.Frag) : List (Addr × Str) := xs.map fun x => (codeTab K (fnCode K x), (x ++ ".<locals>.") ++ "<lambda>")
def codesOf (xs : List Str) (K : PySem.W.Frag) : List (Addr × Addr) := xs.map fun x => (fnCode K x, codeTab K (fnCode K x))
/-- the tables stand apart, they are not written, their code objects are -/
def tabOk (K : PySem.W.Frag) (ts : List Addr) (xs : List Str) : Bool := (codesOf xs K).all fun p => PySem.W.codeHdIn K p.1 p.2 && (K.lookup p.2).isNone && ts.contains p.2
def tabAp (K : PySem.W.Frag) (xs : List Str) : Bool := (tabsOf xs K).all fun p => (tabsOf xs K).all fun q => p.1 != q.1 || decide (p.2 = q.2)
theorem tabAp_of {K : PySem.W.Frag} {xs : List Str} (h : tabAp K xs = true) {p q : Addr × Str} (hp : p ∈ tabsOf xs K) (hq : q ∈ tabsOf xs K) (e : p.1 = q.1) : p.2 = q.2 := by
  unfold tabAp at h
  have z := List.all_eq_true.mp (List.all_eq_true.mp h p hp) q hq
  rw [e] at z
  simpa using z
/-- THE END: every def tied, and the evaluator says True of each script -/
theorem walkG {l : PySem.W.OpenLaw} {n k : Nat} {q : Program} {loose : List Str} {XP : (Str → Option Value) → Heap → Prop} {YP : World → Heap → Prop} {d : DefRec} {K : Params → PySem.W.Frag} {T : Tab} {G : Str → Option D} {bs : List Str} {ts : List Addr} {xs : List Str}
    (hn : l.most = some n) (hn2 : n ≤ sizeLine) (hdf : d.params.defaults = []) (hr : Room (3 * k) callerA) (hY : ∀ (w : World) (h : Heap), YP w h → (K w.params).In h) (hts : ∀ (w : World) (h : Heap), YP w h → ∀ P ∈ ts, h.get? P = some emptyO)
    (hTb : ∀ w : World, Tb.T (K w.params) = tabsOf xs (K w.params)) (hok : ∀ w : World, tabOk (K w.params) ts xs = true)
    (F : ∀ (w : World) (mg : Str → Option Value) (h : Heap), (K w.params).In h → h.Ns mainGlobals mg → Glob (K w.params) mg G ∧ (∀ b ∈ bs, mg b = none) ∧ ∀ f e, T f = some e → ∀ base : Heap, (∀ p ∈ codesOf xs (K w.params), LamX.TabB base mg p.1 p.2) → Tied l.prog w (K w.params) mg base T G bs f e)
    {e : Fn} (hT : T d.name = some e) (run1 : ∀ ns : List Int, ns.length ≤ n → ∃ h', run T G k d.name [scriptD ns] [] = .ok (.dat (.bl true)) h') :
    PySem.W.WalkO q loose XP YP l.row.toRowW d [] (fun f vs => PySem.call f vs) := by
  refine Att.attach_call hn hdf fun w s0 s1 mg mb fa o pm cd doc a vs ns Gr Y ho hd hcd hmg hobj hints hlen hg => ?_
  have KX := hY w _ Y
  obtain ⟨gl, hb, tied⟩ := F w mg _ KX Gr.T.g
  obtain ⟨h', e1⟩ := run1 ns hlen
  have tk : ∀ p ∈ codesOf xs (K w.params), PySem.W.codeHdIn (K w.params) p.1 p.2 = true ∧ (K w.params).lookup p.2 = none ∧ p.2 ∈ ts := fun p hp => by
    have z := List.all_eq_true.mp (hok w) p hp
    simp only [Bool.and_eq_true, Option.isNone_iff_eq_none, List.contains_iff_mem] at z
    exact ⟨z.1.1, z.1.2, z.2⟩
  have em : (Tb.T (K w.params)).map (·.1) = (codesOf xs (K w.params)).map (·.2) := by
    rw [hTb w]
    unfold tabsOf codesOf
    rw [List.map_map, List.map_map]
    rfl
  refine lawG (cs := codesOf xs (K w.params)) KX Gr.T.g Gr.T.b Gr.T.builtins Gr.T.nolimit hg Gr.T.bmain (fun p hp => hts w _ Y _ (tk p hp).2.2) (fun p hp => (tk p hp).2.1) (fun p hp => PySem.W.codeHd_of_K KX (tk p hp).1) hobj hints (Nat.le_trans hlen hn2) hr (k := 3 * k) (sp := spM (K w.params) (run T G k) d.name 1) (fun base kb gb TB => ?_) fun H arg h0 nt => ?_
  · obtain ⟨fa2, fd2, ps2, g1, _, g2, g3, g4, g5⟩ := all_defs gl hb (fun f e hf => tied f e hf base TB) k d.name e hT
    rw [hmg] at g1
    cases g1
    have l1 : ps2.length = 1 := Classical.byContradiction fun z => by
      rw [g5 [scriptD ns] [] (fun z' => z z'.symm)] at e1
      cases e1
    obtain ⟨x, rfl⟩ := List.length_eq_one_iff.mp l1
    exact ⟨fd2, x, g3, g4⟩
  · refine ⟨rfl, ⟨H, fun _ => 0, fun _ => False, 0⟩, [], [scriptD ns], rfl, no_wf em (fun b hb => ?_) nt, RelDs.one ?_, ?_⟩
    · obtain ⟨p, hp, e⟩ := List.mem_map.mp hb
      rw [← e]
      exact h0 p hp
    · unfold scriptD RelD
      exact ⟨a, _, rfl, arg, rel_ints ns⟩
    · rw [e1]
      intro c' v _ _ r
      have q : RelD (K w.params) c' (.bl true) v := r.1
      unfold RelD at q
      exact q
end Mi
/-! Mi10: what the top has written, by lists. -/
namespace Mi
open PySem PySem.Spec PyProof.Rows L2
variable [Tb]

inductive GlobL (K : PySem.W.Frag) (mg : Str → Option Value) : List (Str × D) → Prop where
  | nil : GlobL K mg []
  | cons {x : Str} {d : D} {l : List (Str × D)} (h : ∃ v u, mg x = some u ∧ RelV v u ∧ ∀ c, RelD K c d v) (t : GlobL K mg l) : GlobL K mg ((x, d) :: l)
theorem lookup_cons {α : Type} {x y : Str} {d : α} {l : List (Str × α)} {e : α} (h : ((x, d) :: l).lookup y = some e) : (y = x ∧ e = d) ∨ l.lookup y = some e := by
  rw [List.lookup_cons] at h
  by_cases q : y = x
  · subst q
    rw [beq_self_eq_true] at h
    exact .inl ⟨rfl, (Option.some.inj h).symm⟩
  · have : (y == x) = false := by simpa using q
    rw [this] at h
    exact .inr h
theorem glob_all {K : PySem.W.Frag} {mg : Str → Option Value} {l : List (Str × D)} (h : GlobL K mg l) : Glob K mg fun x => l.lookup x := by
  intro x d e
  induction h with
  | nil => cases e
  | cons h t ih =>
    rcases lookup_cons e with ⟨rfl, rfl⟩ | e
    · exact h
    · exact ih e
inductive NoneL (mg : Str → Option Value) : List Str → Prop where
  | nil : NoneL mg []
  | cons {x : Str} {l : List Str} (h : mg x = none) (t : NoneL mg l) : NoneL mg (x :: l)
theorem none_all {mg : Str → Option Value} {l : List Str} (h : NoneL mg l) : ∀ b ∈ l, mg b = none := by
  induction h with
  | nil => intro b hb; cases hb
  | cons h t ih =>
    intro b hb
    rcases List.mem_cons.mp hb with rfl | hb
    · exact h
    · exact ih b hb
inductive TiedL (P : Program) (w : World) (K : PySem.W.Frag) (mg : Str → Option Value) (base : Heap) (T : Tab) (G : Str → Option D) (bs : List Str) : List (Str × Fn) → Prop where
  | nil : TiedL P w K mg base T G bs []
  | cons {x : Str} {d : Fn} {l : List (Str × Fn)} (h : Tied P w K mg base T G bs x d) (t : TiedL P w K mg base T G bs l) : TiedL P w K mg base T G bs ((x, d) :: l)
theorem tied_all {P : Program} {w : World} {K : PySem.W.Frag} {mg : Str → Option Value} {base : Heap} {T : Tab} {G : Str → Option D} {bs : List Str} {l : List (Str × Fn)} (h : TiedL P w K mg base T G bs l) :
    ∀ f e, l.lookup f = some e → Tied P w K mg base T G bs f e := by
  intro f e q
  induction h with
  | nil => cases q
  | cons h t ih =>
    rcases lookup_cons q with ⟨rfl, rfl⟩ | q
    · exact h
    · exact ih q
/-- a value of the top is this plain constant -/
def conV : Value → D → Bool
  | .none, .non => true
  | .bool a, .bl b => a == b
  | .int i _, .int j => i == j
  | .str s _, .str t => s == t
  | _, _ => false
theorem conV_rel {K : PySem.W.Frag} : ∀ {u : Value} {d : D}, conV u d = true → ∃ v, RelV v u ∧ ∀ c, RelD K c d v := by
  intro u d h
  unfold conV at h
  split at h
  · exact ⟨.non, rfl, fun c => by unfold RelD; rfl⟩
  · rename_i a b
    obtain rfl : a = b := by simpa using h
    exact ⟨.bl a, rfl, fun c => by unfold RelD; rfl⟩
  · rename_i a _ b
    obtain rfl : a = b := by simpa using h
    exact ⟨.int a, ⟨_, rfl⟩, fun c => by unfold RelD; rfl⟩
  · rename_i a _ b
    obtain rfl : a = b := by simpa using h
    exact ⟨.str a, ⟨_, rfl⟩, fun c => by unfold RelD; rfl⟩
  · cases h
def conVs : List Value → List D → Bool
  | [], [] => true
  | u :: us, d :: ds => conV u d && conVs us ds
  | _, _ => false
theorem conVs_rel {K : PySem.W.Frag} : ∀ {us : List Value} {ds : List D}, conVs us ds = true → ∃ vs, Vals vs us ∧ ∀ c, RelDs K c ds vs
  | [], [], _ => ⟨[], .nil, fun c => by unfold RelDs; rfl⟩
  | u :: us, d :: ds, h => by
    unfold conVs at h
    simp only [Bool.and_eq_true] at h
    obtain ⟨v, h1, h2⟩ := conV_rel (K := K) h.1
    obtain ⟨vs, h3, h4⟩ := conVs_rel (K := K) h.2
    exact ⟨v :: vs, .cons h1 h3, fun c => RelDs.cons (h2 c) (h4 c)⟩
  | [], _ :: _, h => by unfold conVs at h; cases h
  | _ :: _, [], h => by unfold conVs at h; cases h
def conOk : Obj → D → Bool
  | ⟨.type n, _, .seq its _, _⟩, .tup l => (n == "tuple") && decide (its.size ≤ sizeLine) && conVs its.toList l
  | _, _ => false
theorem glob_val {K : PySem.W.Frag} {mg : Str → Option Value} {x : Str} {u : Value} {d : D} (h : mg x = some u) (k : conV u d = true) : ∃ v u, mg x = some u ∧ RelV v u ∧ ∀ c, RelD K c d v := by
  obtain ⟨v, h1, h2⟩ := conV_rel (K := K) k
  exact ⟨v, u, h, h1, h2⟩
theorem glob_tup {K : PySem.W.Frag} {mg : Str → Option Value} {x : Str} {a : Addr} {o : Obj} {d : D} (h : mg x = some (.ref a)) (l : K.lookup a = some o) (k : conOk o d = true) : ∃ v u, mg x = some u ∧ RelV v u ∧ ∀ c, RelD K c d v := by
  unfold conOk at k
  split at k
  · rename_i n od its m sl ds
    simp only [Bool.and_eq_true, decide_eq_true_eq, beq_iff_eq] at k
    obtain ⟨⟨rfl, k2⟩, k3⟩ := k
    obtain ⟨vs, h1, h2⟩ := conVs_rel (K := K) k3
    refine ⟨.ref a, .ref a, h, rfl, fun c => ?_⟩
    unfold RelD
    exact ⟨a, vs, rfl, .inr ⟨_, its, m, l, rfl, rfl, k2, h1⟩, h2 c⟩
  · cases k
/-! ### tables of the defs with lambdas -/
omit [Tb] in
theorem code_of {K : PySem.W.Frag} {x nm qn : Str} {f : Addr} {pa : Arguments} {bd : List Stmt} {sc : Scope} {dV oc kV dc pm cd ct : Value} {od an : Option Addr} {sl : Array (Option Value)} (a : PySem.W.nsIn K mainGlobals x = some (some (.ref f)))
    (l : K.lookup f = some ⟨oc, od, .func (PySem.W.fnOf nm qn pa bd sc dV kV dc pm an cd ct), sl⟩) (c : PySem.W.codeIn K cd qn = true) : (PySem.W.fnOf nm qn pa bd sc dV kV dc pm an cd ct).code = .ref (fnCode K x) := by
  have e : (PySem.W.fnOf nm qn pa bd sc dV kV dc pm an cd ct).code = cd := rfl
  unfold PySem.W.codeIn at c
  split at c
  · rename_i p
    unfold fnCode
    rw [glA_of a]
    simp only [l]
  · cases c
omit [Tb] in
theorem codes_mem {K : PySem.W.Frag} {xs : List Str} {x : Str} (h : xs.contains x = true) : (fnCode K x, codeTab K (fnCode K x)) ∈ codesOf xs K := by
  unfold codesOf
  exact List.mem_map_of_mem (f := fun x => (fnCode K x, codeTab K (fnCode K x))) (by simpa using h)
omit [Tb] in
theorem tabs_in {K : PySem.W.Frag} {xs : List Str} {x : Str} (h : xs.contains x = true) : (codeTab K (fnCode K x), (x ++ ".<locals>.") ++ "<lambda>") ∈ tabsOf xs K := by
  have h' : x ∈ xs := by simpa using h
  unfold tabsOf
  exact List.mem_map_of_mem (f := fun x => (codeTab K (fnCode K x), (x ++ ".<locals>.") ++ "<lambda>")) h'
theorem tabs_mem {K : PySem.W.Frag} {xs : List Str} {x : Str} (hTb : Tb.T K = tabsOf xs K) (h : xs.contains x = true) : (codeTab K (fnCode K x), (x ++ ".<locals>.") ++ "<lambda>") ∈ Tb.T K := by
  rw [hTb]
  exact tabs_in h
theorem tabs_uniq {K : PySem.W.Frag} {xs : List Str} {x : Str} (hTb : Tb.T K = tabsOf xs K) (ap : tabAp K xs = true) (h : xs.contains x = true) : ∀ p ∈ Tb.T K, p.1 = codeTab K (fnCode K x) → p.2 = (x ++ ".<locals>.") ++ "<lambda>" := by
  intro p hp e
  rw [hTb] at hp
  have q := tabs_in (K := K) h
  generalize codeTab K (fnCode K x) = A at q e
  generalize (x ++ ".<locals>.") ++ "<lambda>" = s at q ⊢
  exact tabAp_of (p := p) (q := (A, s)) ap hp q e
end Mi
/-! Mi11: reckoning with the evaluator. -/
namespace Mi
open PySem PySem.Spec PyProof.Rows L2

/-- it ends well, so that Q, or with a refusal, so that X -/
def evX {α : Type} (X : Exc → Hh → Prop) (r : Res α) (Q : α → Hh → Prop) : Prop := match r with
  | .ok a h => Q a h
  | .ex x h => X x h
  | .bad => False
abbrev noX : Exc → Hh → Prop := fun _ _ => False
def contFX (X : Exc → Hh → Prop) (Q : Fl → Hh → Prop) (k : Env' → Hh → Res Fl) : Fl → Hh → Prop := fun fl h => match fl with
  | .nx e => evX X (k e h) Q
  | fl => Q fl h
variable {X : Exc → Hh → Prop}
theorem ev_ok {α : Type} {a : α} {h : Hh} {Q : α → Hh → Prop} : evX X (.ok a h) Q = Q a h := rfl
theorem ev_bad {α : Type} {Q : α → Hh → Prop} : evX X (.bad : Res α) Q = False := rfl
theorem ev_ex {α : Type} {x : Exc} {h : Hh} {Q : α → Hh → Prop} : evX X (.ex x h : Res α) Q = X x h := rfl
theorem ev_mono {α : Type} {r : Res α} {P Q : α → Hh → Prop} (p : evX X r P) (k : ∀ a h, P a h → Q a h) : evX X r Q := by
  cases r with
  | ok a h => exact k a h p
  | _ => exact p
theorem ev_bind {α β : Type} {r : Res α} {f : α → Hh → Res β} {Q : β → Hh → Prop} : evX X (r.bind f) Q = evX X r fun a h => evX X (f a h) Q := by
  cases r <;> rfl
theorem ev_iff {α : Type} {r : Res α} {Q : α → Hh → Prop} : evX noX r Q ↔ ∃ a h, r = .ok a h ∧ Q a h := by
  cases r with
  | ok a h => exact ⟨fun q => ⟨a, h, rfl, q⟩, fun ⟨_, _, e, q⟩ => by cases e; exact q⟩
  | _ => exact ⟨fun q => q.elim, fun ⟨_, _, e, _⟩ => by cases e⟩
theorem bind_ok {α β : Type} {a : α} {h : Hh} {f : α → Hh → Res β} : (Res.ok a h).bind f = f a h := rfl
theorem bind_bad {α β : Type} {f : α → Hh → Res β} : (Res.bad : Res α).bind f = .bad := rfl
theorem bind_ex {α β : Type} {x : Exc} {h : Hh} {f : α → Hh → Res β} : (Res.ex x h : Res α).bind f = .ex x h := rfl
def ofR {α β : Type} (h : Hh) (o : Option α) (k : α → β) : Res β := Res.of h (o.map k)
theorem of_some {α : Type} {h : Hh} {a : α} : Res.of h (some a) = .ok a h := rfl
theorem of_none {α : Type} {h : Hh} : Res.of h (none : Option α) = .bad := rfl
/-! helpers with one eye -/
def fzR {α : Type} (x : R) (k : D → Res α) : Res α := match x.fz with
  | some d => k d
  | none => .bad
theorem fzR_dat {α : Type} {d : D} {k : D → Res α} : fzR (.dat d) k = k d := rfl
theorem fzR_new {α : Type} {l : List D} {k : D → Res α} : fzR (.new l) k = k (.lst l) := rfl
/-- a truth decides -/
def brR {α : Type} (x : R) (a b : Res α) : Res α := match x with
  | .dat (.bl true) => a
  | .dat (.bl false) => b
  | _ => .bad
theorem brR_true {α : Type} {a b : Res α} : brR (.dat (.bl true)) a b = a := rfl
theorem brR_false {α : Type} {a b : Res α} : brR (.dat (.bl false)) a b = b := rfl
theorem brR_pos {α : Type} {p : Bool} {a b : Res α} (h : p = true) : brR (.dat (.bl p)) a b = a := by rw [h]; rfl
theorem brR_neg {α : Type} {p : Bool} {a b : Res α} (h : p = false) : brR (.dat (.bl p)) a b = b := by rw [h]; rfl
theorem ev_br {α : Type} {p : Bool} {a b : Res α} {Q : α → Hh → Prop} (h1 : p = true → evX X a Q) (h2 : p = false → evX X b Q) : evX X (brR (.dat (.bl p)) a b) Q := by
  cases p with
  | true => exact h1 rfl
  | false => exact h2 rfl
def seqR (r : Res Fl) (k : Env' → Hh → Res Fl) : Res Fl := match r with
  | .ok (.nx e) h => k e h
  | r => r
theorem seqR_nx {e : Env'} {h : Hh} {k : Env' → Hh → Res Fl} : seqR (.ok (.nx e) h) k = k e h := rfl
theorem seqR_rt {r : R} {h : Hh} {k : Env' → Hh → Res Fl} : seqR (.ok (.rt r) h) k = .ok (.rt r) h := rfl
theorem seqR_bk {e : Env'} {h : Hh} {k : Env' → Hh → Res Fl} : seqR (.ok (.bk e) h) k = .ok (.bk e) h := rfl
theorem seqR_ct {e : Env'} {h : Hh} {k : Env' → Hh → Res Fl} : seqR (.ok (.ct e) h) k = .ok (.ct e) h := rfl
theorem ev_seq {r : Res Fl} {k : Env' → Hh → Res Fl} {Q : Fl → Hh → Prop} : evX X (seqR r k) Q = evX X r (contFX X Q k) := by
  cases r with
  | ok fl h => cases fl <;> rfl
  | _ => rfl
theorem contF_nx {Q : Fl → Hh → Prop} {k : Env' → Hh → Res Fl} {e : Env'} {h : Hh} : contFX X Q k (.nx e) h = evX X (k e h) Q := rfl
theorem contF_rt {Q : Fl → Hh → Prop} {k : Env' → Hh → Res Fl} {e : R} {h : Hh} : contFX X Q k (.rt e) h = Q (.rt e) h := rfl
theorem contF_bk {Q : Fl → Hh → Prop} {k : Env' → Hh → Res Fl} {e : Env'} {h : Hh} : contFX X Q k (.bk e) h = Q (.bk e) h := rfl
theorem contF_ct {Q : Fl → Hh → Prop} {k : Env' → Hh → Res Fl} {e : Env'} {h : Hh} : contFX X Q k (.ct e) h = Q (.ct e) h := rfl
def getV (s : Option Slot) (h : Hh) : Res R := match s with
  | some (.val d) => .ok (.dat d) h
  | some (.own l) => .ok (.bor l) h
  | _ => .bad
theorem getV_val {d : D} {h : Hh} : getV (some (.val d)) h = .ok (.dat d) h := rfl
theorem getV_own {d : List D} {h : Hh} : getV (some (.own d)) h = .ok (.bor d) h := rfl
def lenR (ds : List D) (a : Res R) : Res R := if ds.length ≤ sizeLine then a else .bad
theorem lenR_ok {ds : List D} {a : Res R} (h : ds.length ≤ sizeLine) : lenR ds a = a := if_pos h
def ownR (s : Option Slot) (k : List D → Res Fl) : Res Fl := match s with
  | some (.own l) => k l
  | _ => .bad
theorem ownR_own {l : List D} {k : List D → Res Fl} : ownR (some (.own l)) k = k l := rfl
def newR {α : Type} (x : R) (k : List D → Res α) : Res α := match x with
  | .new l => k l
  | _ => .bad
theorem newR_new {α : Type} {l : List D} {k : List D → Res α} : newR (.new l) k = k l := rfl
def optR {α β : Type} (x : Option α) (k : α → Res β) : Res β := match x with
  | some a => k a
  | none => .bad
theorem optR_some {α β : Type} {a : α} {k : α → Res β} : optR (some a) k = k a := rfl
def tupR {α : Type} (x : R) (k : List D → Res α) : Res α := match x with
  | .dat (.tup l) => k l
  | _ => .bad
theorem tupR_tup {α : Type} {l : List D} {k : List D → Res α} : tupR (.dat (.tup l)) k = k l := rfl
def strR {α : Type} (x : R) (k : Str → Res α) : Res α := match x with
  | .dat (.str l) => k l
  | _ => .bad
theorem strR_str {α : Type} {l : Str} {k : Str → Res α} : strR (.dat (.str l)) k = k l := rfl
def intR {α : Type} (x : R) (k : Int → Res α) : Res α := match x with
  | .dat (.int l) => k l
  | _ => .bad
theorem intR_int {α : Type} {l : Int} {k : Int → Res α} : intR (.dat (.int l)) k = k l := rfl
def proR (x : R) (h : Hh) : Res R := match x with
  | .new l => .ok (.dat (.ref h.length)) (h ++ [.lst l])
  | .dat d => .ok (.dat d) h
  | .bor _ => .bad
theorem proR_new {l : List D} {h : Hh} : proR (.new l) h = .ok (.dat (.ref h.length)) (h ++ [.lst l]) := rfl
theorem proR_dat {d : D} {h : Hh} : proR (.dat d) h = .ok (.dat d) h := rfl
def setLR (x : R) (y : R) (d : D) (env : Env') (h : Hh) : Res Fl := match x, y with
  | .dat (.ref n), .dat (.int i) => match h[n]? with
    | some (.lst l) => match ixN l.length i with
      | some j => .ok (.nx env) (h.set n (.lst (l.set j d)))
      | none => .bad
    | _ => .bad
  | _, _ => .bad
theorem setLR_ok {n : Nat} {i : Int} {l : List D} {j : Nat} {d : D} {env : Env'} {h : Hh} (e : h[n]? = some (.lst l)) (q : ixN l.length i = some j) : setLR (.dat (.ref n)) (.dat (.int i)) d env h = .ok (.nx env) (h.set n (.lst (l.set j d))) := by
  simp only [setLR, e, q]
def setDR (x : R) (y : R) (d : D) (env : Env') (h : Hh) : Res Fl := match x, y with
  | .dat (.ref n), .dat kd => match h[n]?, keyOf kd with
    | some (.dct l), some kk => if l.length < sizeLine then .ok (.nx env) (h.set n (.dct (dPut l kk d))) else .bad
    | _, _ => .bad
  | _, _ => .bad
theorem setDR_ok {n : Nat} {kd : D} {l : List (Key × D)} {kk : Key} {d : D} {env : Env'} {h : Hh} (e : h[n]? = some (.dct l)) (q : keyOf kd = some kk) (z : l.length < sizeLine) : setDR (.dat (.ref n)) (.dat kd) d env h = .ok (.nx env) (h.set n (.dct (dPut l kk d))) := by
  simp only [setDR, e, q, if_pos z]
def setOR (l : List D) (i : Nat) (y : R) (d : D) (env : Env') (h : Hh) : Res Fl := match y with
  | .dat (.int z) => match ixN l.length z with
    | some j => .ok (.nx (env.set i (.own (l.set j d)))) h
    | none => .bad
  | _ => .bad
theorem setOR_ok {l : List D} {i j : Nat} {z : Int} {d : D} {env : Env'} {h : Hh} (q : ixN l.length z = some j) : setOR l i (.dat (.int z)) d env h = .ok (.nx (env.set i (.own (l.set j d)))) h := by
  simp only [setOR, q]
def appR (l : List D) (i : Nat) (d : D) (env : Env') (h : Hh) : Res Fl := if l.length < sizeLine then .ok (.nx (env.set i (.own (l ++ [d])))) h else .bad
theorem appR_ok {l : List D} {i : Nat} {d : D} {env : Env'} {h : Hh} (z : l.length < sizeLine) : appR l i d env h = .ok (.nx (env.set i (.own (l ++ [d])))) h := if_pos z
def retR (x : R) (h : Hh) : Res Fl := match x with
  | .bor _ => .bad
  | r => .ok (.rt r) h
theorem retR_dat {d : D} {h : Hh} : retR (.dat d) h = .ok (.rt (.dat d)) h := rfl
theorem retR_new {d : List D} {h : Hh} : retR (.new d) h = .ok (.rt (.new d)) h := rfl
def rngR (x y : R) (h : Hh) : Res (List D) := match x, y with
    | .dat (.int i), .dat (.int j) => if rngOk i && rngOk j then .ok (rngL i (j - i).toNat) h else .bad
    | _, _ => .bad
theorem rngR_ok {i j : Int} {h : Hh} (q : (rngOk i && rngOk j) = true) : rngR (.dat (.int i)) (.dat (.int j)) h = .ok (rngL i (j - i).toNat) h := by simp only [rngR, q, if_true]
def rng1R (x : R) (h : Hh) : Res (List D) := match x with
    | .dat (.int j) => if rngOk j then .ok (rngL 0 j.toNat) h else .bad
    | _ => .bad
theorem rng1R_ok {j : Int} {h : Hh} (q : rngOk j = true) : rng1R (.dat (.int j)) h = .ok (rngL 0 j.toNat) h := by simp only [rng1R, q, if_true]
section
variable (C : Calls') (G : Str → Option D)
/-- a comprehension's walk -/
def compR (own : List Nat) (t : Tg) (c e : E) (env : Env') (ds : List D) (h : Hh) : Res R := compLoop (compF C G own t c e env) ds [] h
def forR (t : Tg) (b : Ss) (ds : List D) (env : Env') (h : Hh) : Res Fl := forLoop t (fun env' h' => execSs C G b env' h') ds env h
def whlR (c : E) (b : Ss) (n : Nat) (env : Env') (h : Hh) : Res Fl := whlLoop (fun env' h' => evalE C G c env' h') (fun env' h' => execSs C G b env' h') n env h
end
section
variable {C : Calls'} {G : Str → Option D} {env : Env'} {h : Hh}
theorem x_var {i : Nat} : evalE C G (.var i) env h = getV env[i]? h := by
  conv => lhs; unfold evalE
  rfl
theorem x_con {d : D} : evalE C G (.con d) env h = .ok (.dat d) h := by conv => lhs; unfold evalE
theorem x_glo {x : Str} : evalE C G (.glo x) env h = Res.of h ((G x).map .dat) := by conv => lhs; unfold evalE
theorem x_bin {op : Bop} {a b : E} : evalE C G (.bin op a b) env h = (evalE C G a env h).bind fun x h1 => (evalE C G b env h1).bind fun y h2 => Res.of h2 (binF h2 op x y) := by conv => lhs; unfold evalE
theorem x_neg {a : E} : evalE C G (.neg a) env h = (evalE C G a env h).bind fun x h1 => Res.of h1 (negF x) := by conv => lhs; unfold evalE
theorem x_cmp {op : Cop} {a b : E} : evalE C G (.cmp op a b) env h = (evalE C G a env h).bind fun x h1 => (evalE C G b env h1).bind fun y h2 => ofR h2 (cmpF h2 op x y) fun b => .dat (.bl b) := by
  conv => lhs; unfold evalE
  rfl
theorem x_chain {p q : Cop} {a b c : E} : evalE C G (.chain p q a b c) env h = (evalE C G a env h).bind fun x h1 => (evalE C G b env h1).bind fun y h2 => (ofR h2 (cmpF h2 p x y) fun b => .dat (.bl b)).bind fun z h3 => brR z ((evalE C G c env h3).bind fun z h3 => ofR h3 (cmpF h3 q y z) fun b => .dat (.bl b)) (.ok (.dat (.bl false)) h3) := by
  conv => lhs; unfold evalE
  congr 1; funext x h1; congr 1; funext y h2
  cases cmpF h2 p x y with
  | none => rfl
  | some b => cases b <;> rfl
theorem x_and {a b : E} : evalE C G (.and2 a b) env h = (evalE C G a env h).bind fun x h1 => brR x (evalE C G b env h1) (.ok (.dat (.bl false)) h1) := by
  conv => lhs; unfold evalE
  rfl
theorem x_or {a b : E} : evalE C G (.or2 a b) env h = (evalE C G a env h).bind fun x h1 => brR x (.ok (.dat (.bl true)) h1) (evalE C G b env h1) := by
  conv => lhs; unfold evalE
  rfl
def notR (x : R) (h : Hh) : Res R := match x with
  | .dat (.bl k) => .ok (.dat (.bl (!k))) h
  | _ => .bad
theorem notR_bl {k : Bool} : notR (.dat (.bl k)) h = .ok (.dat (.bl (!k))) h := rfl
theorem x_not {a : E} : evalE C G (.not1 a) env h = (evalE C G a env h).bind fun x h1 => notR x h1 := by
  conv => lhs; unfold evalE
  rfl
theorem x_ite {c a b : E} : evalE C G (.ite c a b) env h = (evalE C G c env h).bind fun x h1 => brR x (evalE C G a env h1) (evalE C G b env h1) := by
  conv => lhs; unfold evalE
  rfl
theorem x_call {f : Str} {es : Es} : evalE C G (.call f es) env h = (evalEs C G es env h).bind fun ds h1 => C f ds h1 := by conv => lhs; unfold evalE
theorem x_blt {f : Blt} {es : Es} : evalE C G (.blt f es) env h = (evalEs C G es env h).bind fun ds h1 => Res.of h1 (bltF h1 f ds) := by conv => lhs; unfold evalE
theorem x_blt1 {f : Blt} {a : E} : evalE C G (.blt1 f a) env h = (evalE C G a env h).bind fun x h1 => Res.of h1 (bltR h1 f x) := by conv => lhs; unfold evalE
theorem x_isi {a : E} {t : Ty} : evalE C G (.isi a t) env h = (evalE C G a env h).bind fun x h1 => fzR x fun d => ofR h1 (isiF h1 t d) fun b => .dat (.bl b) := by
  conv => lhs; unfold evalE
  rfl
theorem x_mth {m : Mth} {o : E} {es : Es} : evalE C G (.mth m o es) env h = (evalE C G o env h).bind fun x h1 => strR x fun a => (evalEs C G es env h1).bind fun ds h2 => Res.of h2 (mthF m a ds) := by
  conv => lhs; unfold evalE
  rfl
theorem x_ix {a b : E} : evalE C G (.ix a b) env h = (evalE C G a env h).bind fun x h1 => (evalE C G b env h1).bind fun y h2 => ofR h2 (ixF h2 x y) .dat := by
  conv => lhs; unfold evalE
  rfl
theorem x_dget {a b : E} : evalE C G (.dget a b) env h = (evalE C G a env h).bind fun x h1 => (evalE C G b env h1).bind fun y h2 => ofR h2 (dgetF h2 x y) .dat := by
  conv => lhs; unfold evalE
  rfl
theorem x_sl {a : E} {lo hi : Oe} : evalE C G (.sl a lo hi) env h = (evalE C G a env h).bind fun x h1 => (evalO C G lo env h1).bind fun i h2 => (evalO C G hi env h2).bind fun j h3 => Res.of h3 (slF h3 i j x) := by conv => lhs; unfold evalE
theorem x_tup {es : Es} : evalE C G (.tup es) env h = (evalEs C G es env h).bind fun ds h1 => lenR ds (.ok (.dat (.tup ds)) h1) := by
  conv => lhs; unfold evalE
  rfl
theorem x_lst {es : Es} : evalE C G (.lst es) env h = (evalEs C G es env h).bind fun ds h1 => lenR ds (.ok (.new ds) h1) := by
  conv => lhs; unfold evalE
  rfl
def dctR (ks : List Key) (ds : List D) (h1 : Hh) : Res R := if ks.length ≤ 15 ∧ ks.Nodup then .ok (.dat (.ref h1.length)) (h1 ++ [.dct (ks.zip ds)]) else .bad
theorem dctR_ok {ks : List Key} {ds : List D} (z : ks.length ≤ 15 ∧ ks.Nodup) : dctR ks ds h = .ok (.dat (.ref h.length)) (h ++ [.dct (ks.zip ds)]) := if_pos z
theorem x_dct {ks : List Key} {es : Es} : evalE C G (.dct ks es) env h = (evalEs C G es env h).bind fun ds h1 => dctR ks ds h1 := by
  conv => lhs; unfold evalE
  rfl
theorem x_comp {own : List Nat} {t : Tg} {it : Iter} {c e : E} : evalE C G (.comp own t it c e) env h = (evalI C G it env h).bind fun ds h1 => compR C G own t c e env ds h1 := by
  conv => lhs; unfold evalE
  rfl
theorem x_promo {e : E} : evalE C G (.promo e) env h = (evalE C G e env h).bind fun x h1 => proR x h1 := by
  conv => lhs; unfold evalE
  rfl
theorem x_ono : evalO C G .no env h = .ok none h := by conv => lhs; unfold evalO
theorem x_opart {e : E} : evalO C G (.part e) env h = (evalE C G e env h).bind fun x h1 => intR x fun i => .ok (some i) h1 := by
  conv => lhs; unfold evalO
  rfl
theorem x_nil : evalEs C G .nil env h = .ok [] h := by conv => lhs; unfold evalEs
theorem x_cons {e : E} {es : Es} : evalEs C G (.cons e es) env h = (evalE C G e env h).bind fun x h1 => fzR x fun d => (evalEs C G es env h1).bind fun ds h2 => .ok (d :: ds) h2 := by
  conv => lhs; unfold evalEs
  rfl
theorem x_seq {e : E} : evalI C G (.seq e) env h = (evalE C G e env h).bind fun x h1 => Res.of h1 (itF x) := by conv => lhs; unfold evalI
theorem x_rng1 {a : E} : evalI C G (.rng1 a) env h = (evalE C G a env h).bind fun x h1 => rng1R x h1 := by
  conv => lhs; unfold evalI
  rfl
theorem x_rng2 {a b : E} : evalI C G (.rng2 a b) env h = (evalE C G a env h).bind fun x h1 => (evalE C G b env h1).bind fun y h2 => rngR x y h2 := by
  conv => lhs; unfold evalI
  rfl
theorem x_rng3 {a b c : E} : evalI C G (.rng3 a b c) env h = (evalE C G a env h).bind fun x h1 => (evalE C G b env h1).bind fun y h2 => (evalE C G c env h2).bind fun z h3 => rng3R x y z h3 := by
  conv => lhs; unfold evalI
theorem x_enum {e : E} : evalI C G (.enum e) env h = (evalE C G e env h).bind fun x h1 => ofR h1 (itL x) (enumL 0) := by
  conv => lhs; unfold evalI
  rfl
/-! statements -/
theorem y_asg {i : Nat} {e : E} : execS C G (.asg i e) env h = (evalE C G e env h).bind fun x h1 => fzR x fun d => .ok (.nx (env.set i (.val d))) h1 := by
  conv => lhs; unfold execS
  rfl
theorem y_own {i : Nat} {e : E} : execS C G (.own i e) env h = (evalE C G e env h).bind fun x h1 => newR x fun l => .ok (.nx (env.set i (.own l))) h1 := by
  conv => lhs; unfold execS
  rfl
def anyR (i : Nat) (env : Env') (h : Hh) : R → Res Fl
  | .new l => .ok (.nx (env.set i (.own l))) h
  | .dat d => .ok (.nx (env.set i (.val d))) h
  | .bor _ => .bad
theorem y_any {i : Nat} {e : E} : execS C G (.any i e) env h = (evalE C G e env h).bind fun x h1 => anyR i env h1 x := by
  conv => lhs; unfold execS
  refine congrArg (Res.bind _) ?_
  funext x h1
  cases x <;> rfl
theorem y_asgs {is : List Nat} {e : E} : execS C G (.asgs is e) env h = (evalE C G e env h).bind fun x h1 => tupR x fun ds => optR (setVs env is ds) fun env' => .ok (.nx env') h1 := by
  conv => lhs; unfold execS
  congr 1; funext x h1
  cases x with
  | dat d =>
    cases d with
    | tup ds =>
      show (match setVs env is ds with
        | some env' => Res.ok (Fl.nx env') h1
        | none => Res.bad) = optR (setVs env is ds) _
      cases setVs env is ds <;> rfl
    | _ => rfl
  | _ => rfl
theorem y_setL {o k e : E} : execS C G (.setL o k e) env h = (evalE C G e env h).bind fun v h1 => fzR v fun d => (evalE C G o env h1).bind fun x h2 => (evalE C G k env h2).bind fun y h3 => setLR x y d env h3 := by
  conv => lhs; unfold execS
  congr 1; funext v h1; unfold fzR; cases v.fz <;> rfl
theorem y_setD {o k e : E} : execS C G (.setD o k e) env h = (evalE C G e env h).bind fun v h1 => fzR v fun d => (evalE C G o env h1).bind fun x h2 => (evalE C G k env h2).bind fun y h3 => setDR x y d env h3 := by
  conv => lhs; unfold execS
  congr 1; funext v h1; unfold fzR; cases v.fz <;> rfl
theorem y_setOwn {i : Nat} {k e : E} : execS C G (.setOwn i k e) env h = (evalE C G e env h).bind fun v h1 => fzR v fun d => ownR env[i]? fun l => (evalE C G k env h1).bind fun y h2 => setOR l i y d env h2 := by
  conv => lhs; unfold execS
  congr 1; funext v h1; unfold fzR
  cases v.fz with
  | none => rfl
  | some d =>
    show _ = ownR env[i]? _
    cases env[i]? with
    | none => rfl
    | some s => cases s <;> rfl
theorem y_app {i : Nat} {e : E} : execS C G (.app i e) env h = ownR env[i]? fun l => (evalE C G e env h).bind fun v h1 => fzR v fun d => appR l i d env h1 := by
  conv => lhs; unfold execS
  cases env[i]? with
  | none => rfl
  | some s =>
    cases s with
    | own l =>
      show Res.bind _ _ = Res.bind _ _
      congr 1; funext v h1; unfold fzR; cases v.fz <;> rfl
    | _ => rfl
theorem y_raise {c : Str} {es : Es} : execS C G (.raise c es) env h = (evalEs C G es env h).bind fun ds h1 => .ex ⟨c, ds⟩ h1 := by
  conv => lhs; unfold execS
def extR (l : List D) (i : Nat) (v : R) (env : Env') (h1 : Hh) : Res Fl := match lv h1 v with
      | some m => if l.length + m.length ≤ sizeLine then .ok (.nx (env.set i (.own (l ++ m)))) h1 else .bad
      | none => .bad
theorem extR_ok {l m : List D} {i : Nat} {v : R} (e : lv h v = some m) (z : l.length + m.length ≤ sizeLine) : extR l i v env h = .ok (.nx (env.set i (.own (l ++ m)))) h := by simp only [extR, e, if_pos z]
theorem y_ext {i : Nat} {e : E} : execS C G (.ext i e) env h = ownR env[i]? fun l => (evalE C G e env h).bind fun v h1 => extR l i v env h1 := by
  conv => lhs; unfold execS
  cases env[i]? with
  | none => rfl
  | some s => cases s <;> rfl
theorem y_expr {e : E} : execS C G (.expr e) env h = (evalE C G e env h).bind fun _ h1 => .ok (.nx env) h1 := by conv => lhs; unfold execS
theorem y_ifs {c : E} {a b : Ss} : execS C G (.ifs c a b) env h = (evalE C G c env h).bind fun x h1 => brR x (execSs C G a env h1) (execSs C G b env h1) := by
  conv => lhs; unfold execS
  rfl
theorem y_for {t : Tg} {it : Iter} {b : Ss} : execS C G (.for' t it b) env h = (evalI C G it env h).bind fun ds h1 => forR C G t b ds env h1 := by
  conv => lhs; unfold execS
  rfl
theorem y_whl {c : E} {b : Ss} : execS C G (.whl c b) env h = whlR C G c b whlMost env h := by
  conv => lhs; unfold execS
  rfl
theorem y_ret {e : E} : execS C G (.ret e) env h = (evalE C G e env h).bind fun x h1 => retR x h1 := by
  conv => lhs; unfold execS
  rfl
theorem y_retV {i : Nat} : execS C G (.retV i) env h = ownR env[i]? fun l => .ok (.rt (.new l)) h := by
  conv => lhs; unfold execS
  rfl
theorem y_retn : execS C G .retn env h = .ok (.rt (.dat .non)) h := by conv => lhs; unfold execS
theorem y_pass : execS C G .pass env h = .ok (.nx env) h := by conv => lhs; unfold execS
theorem y_brk : execS C G .brk env h = .ok (.bk env) h := by conv => lhs; unfold execS
theorem y_cnt : execS C G .cnt env h = .ok (.ct env) h := by conv => lhs; unfold execS
theorem y_frz {i : Nat} : execS C G (.frz i) env h = ownR env[i]? fun l => .ok (.nx (env.set i (.val (.lst l)))) h := by
  conv => lhs; unfold execS
  rfl
theorem z_nil : execSs C G .nil env h = .ok (.nx env) h := by conv => lhs; unfold execSs
theorem z_cons {s : S} {ss : Ss} : execSs C G (.cons s ss) env h = seqR (execS C G s env h) fun env' h' => execSs C G ss env' h' := by
  conv => lhs; unfold execSs
  cases execS C G s env h with
  | ok fl h' => cases fl <;> rfl
  | _ => rfl
end
/-! a call -/
def rtR (r : Res Fl) : Res R := match r with
    | .ok (.rt r) h' => .ok r h'
    | .ok (.nx _) h' => .ok (.dat .non) h'
    | .ex x h' => .ex x h'
    | _ => .bad
theorem rtR_rt {r : R} {h : Hh} : rtR (.ok (.rt r) h) = .ok r h := rfl
theorem rtR_nx {e : Env'} {h : Hh} : rtR (.ok (.nx e) h) = .ok (.dat .non) h := rfl
def endQ (Q : R → Hh → Prop) : Fl → Hh → Prop := fun fl h => match fl with
  | .rt r => Q r h
  | .nx _ => Q (.dat .non) h
  | _ => False
theorem ev_rt {r : Res Fl} {Q : R → Hh → Prop} : evX X (rtR r) Q = evX X r (endQ Q) := by
  cases r with
  | ok fl h => cases fl <;> rfl
  | _ => rfl
theorem endQ_rt {Q : R → Hh → Prop} {r : R} {h : Hh} : endQ Q (.rt r) h = Q r h := rfl
theorem endQ_nx {Q : R → Hh → Prop} {r : Env'} {h : Hh} : endQ Q (.nx r) h = Q (.dat .non) h := rfl
theorem run_s {T : Tab} {G : Str → Option D} {n : Nat} {f : Str} {d : Fn} (e : T f = some d) (ds : List D) (h : Hh) (hl : ds.length = d.pars) : run T G (n + 1) f ds h = rtR (execSs (run T G n) G d.body (d.env ds) h) := by
  conv => lhs; unfold run
  rw [e]
  show runBody _ G d ds h = _
  unfold runBody
  rw [if_pos hl]
  rfl
/-! loops -/
section
variable {C : Calls'} {G : Str → Option D}
theorem ev_for {t : Tg} {b : Ss} {Q : Fl → Hh → Prop} (I : Nat → Env' → Hh → Prop) : ∀ {ds : List D} {env : Env'} {h : Hh}, I 0 env h →
    (∀ i d env h, ds[i]? = some d → I i env h → ∃ env1, t.bind env d = some env1 ∧ evX X (execSs C G b env1 h) fun fl h2 => match fl with
      | .nx e => I (i + 1) e h2
      | .ct e => I (i + 1) e h2
      | .bk e => Q (.nx e) h2
      | .rt r => Q (.rt r) h2) → (∀ env h, I ds.length env h → Q (.nx env) h) → evX X (forR C G t b ds env h) Q := by
  intro ds
  induction ds generalizing I with
  | nil =>
    intro env h i0 _ done
    exact done env h i0
  | cons d ds ih =>
    intro env h i0 step done
    obtain ⟨env1, e1, p⟩ := step 0 d env h rfl i0
    unfold forR forLoop
    rw [e1]
    show evX X (match execSs C G b env1 h with
      | .ok (.nx env2) h2 => forR C G t b ds env2 h2
      | .ok (.ct env2) h2 => forR C G t b ds env2 h2
      | .ok (.bk env2) h2 => .ok (.nx env2) h2
      | .ok (.rt r) h2 => .ok (.rt r) h2
      | .ex x h2 => .ex x h2
      | .bad => .bad) Q
    cases q : execSs C G b env1 h with
    | bad => rw [q] at p; exact p
    | ex x h => rw [q] at p; exact p
    | ok fl h2 =>
      rw [q] at p
      have go : ∀ e, I 1 e h2 → evX X (forR C G t b ds e h2) Q := fun e i1 => ih (fun i => I (i + 1)) i1 (fun i d' env' h' hd => step (i + 1) d' env' h' (by simpa using hd)) done
      cases fl with
      | nx e => exact go e p
      | ct e => exact go e p
      | bk e => exact p
      | rt r => exact p
theorem for_nil {t : Tg} {b : Ss} {env : Env'} {h : Hh} : forR C G t b [] env h = .ok (.nx env) h := rfl
/-- a comprehension: what stands after each -/
theorem ev_comp {own : List Nat} {t : Tg} {c e : E} {env : Env'} {Q : R → Hh → Prop} (I : Nat → List D → Hh → Prop) : ∀ {ds : List D} {h : Hh} {acc : List D}, I 0 acc h → acc.length + ds.length ≤ sizeLine →
    (∀ i d acc h, ds[i]? = some d → I i acc h → ∃ env1, t.bind (wipeE env own) d = some env1 ∧ evX noX (compG C G c e env1 h) fun x h2 => match x with
      | none => I (i + 1) acc h2
      | some y => I (i + 1) (acc ++ [y]) h2) → (∀ acc h, I ds.length acc h → Q (.new acc) h) → evX X (compLoop (compF C G own t c e env) ds acc h) Q := by
  intro ds
  induction ds generalizing I with
  | nil =>
    intro h acc i0 _ _ done
    exact done acc h i0
  | cons d ds ih =>
    intro h acc i0 hl step done
    obtain ⟨env1, e1, p⟩ := step 0 d acc h rfl i0
    have ef : compF C G own t c e env d h = compG C G c e env1 h := by unfold compF; rw [e1]
    unfold compLoop
    rw [ef]
    simp only [List.length_cons] at hl
    cases q : compG C G c e env1 h with
    | bad => rw [q] at p; exact p.elim
    | ex x h => rw [q] at p; exact p.elim
    | ok o h2 =>
      rw [q] at p
      cases o with
      | none => exact ih (fun i => I (i + 1)) p (by omega) (fun i d' acc' h' hd => step (i + 1) d' acc' h' (by simpa using hd)) done
      | some y =>
        show evX X (if acc.length < sizeLine then _ else _) Q
        rw [if_pos (by omega)]
        exact ih (fun i => I (i + 1)) p (by simp; omega) (fun i d' acc' h' hd => step (i + 1) d' acc' h' (by simpa using hd)) done
theorem x_compG {c e : E} {env : Env'} {h : Hh} : compG C G c e env h = (evalE C G c env h).bind fun b h3 => brR b ((evalE C G e env h3).bind fun x h4 => fzR x fun y => .ok (some y) h4) (.ok none h3) := by
  unfold compG
  rfl
/-- nothing else happens: a map -/
theorem comp_map {own : List Nat} {t : Tg} {c e : E} {env : Env'} {h : Hh} (g : D → D) : ∀ {ds acc : List D}, acc.length + ds.length ≤ sizeLine → (∀ d ∈ ds, compF C G own t c e env d h = .ok (some (g d)) h) → compLoop (compF C G own t c e env) ds acc h = .ok (.new (acc ++ ds.map g)) h
  | [], acc, _, _ => by simp [compLoop]
  | d :: ds, acc, hl, H => by
    unfold compLoop
    rw [H d List.mem_cons_self]
    simp only [List.length_cons] at hl
    show (if acc.length < sizeLine then compLoop (compF C G own t c e env) ds (acc ++ [g d]) h else .bad) = _
    rw [if_pos (by omega), comp_map g (by simp; omega) fun d' hd => H d' (List.mem_cons_of_mem _ hd)]
    simp
theorem comp_filter {own : List Nat} {t : Tg} {c e : E} {env : Env'} {h : Hh} (p : D → Bool) (g : D → D) : ∀ {ds acc : List D}, acc.length + ds.length ≤ sizeLine → (∀ d ∈ ds, compF C G own t c e env d h = .ok (if p d then some (g d) else none) h) →
    compLoop (compF C G own t c e env) ds acc h = .ok (.new (acc ++ (ds.filter p).map g)) h
  | [], acc, _, _ => by simp [compLoop]
  | d :: ds, acc, hl, H => by
    unfold compLoop
    rw [H d List.mem_cons_self]
    simp only [List.length_cons] at hl
    by_cases q : p d = true
    · rw [if_pos q]
      show (if acc.length < sizeLine then compLoop (compF C G own t c e env) ds (acc ++ [g d]) h else .bad) = _
      rw [if_pos (by omega), comp_filter p g (by simp; omega) fun d' hd => H d' (List.mem_cons_of_mem _ hd)]
      simp [List.filter_cons, q]
    · rw [if_neg q]
      show compLoop (compF C G own t c e env) ds acc h = _
      rw [comp_filter p g (by omega) fun d' hd => H d' (List.mem_cons_of_mem _ hd)]
      simp [List.filter_cons, q]
end
/-! ### step by step -/
section
variable {C : Calls'} {G : Str → Option D} {env : Env'} {h : Hh} {Q : R → Hh → Prop} {QL : List D → Hh → Prop} {QO : Option Int → Hh → Prop} {QF : Fl → Hh → Prop}
theorem w_var {i : Nat} {d : D} (e : env[i]? = some (.val d)) (p : Q (.dat d) h) : evX X (evalE C G (.var i) env h) Q := by rw [x_var, e]; exact p
theorem w_varO {i : Nat} {d : List D} (e : env[i]? = some (.own d)) (p : Q (.bor d) h) : evX X (evalE C G (.var i) env h) Q := by rw [x_var, e]; exact p
theorem w_lrng1 {a : E} (p : evX X (evalE C G a env h) fun x h1 => evX X (lrngR 0 x h1) Q) : evX X (evalE C G (.lrng1 a) env h) Q := by
  conv => arg 2; unfold evalE
  rw [ev_bind]; exact p
theorem w_lrng2 {a b : E} (p : evX X (evalE C G a env h) fun x h1 => evX X (evalE C G b env h1) fun y h2 => evX X (lrngR2 x y h2) Q) : evX X (evalE C G (.lrng2 a b) env h) Q := by
  conv => arg 2; unfold evalE
  rw [ev_bind]
  refine ev_mono p fun x h1 p => ?_
  rw [ev_bind]; exact p
theorem w_lrngR {i j : Int} (e : -(2 ^ 62) ≤ i ∧ i < 2 ^ 62 ∧ -(2 ^ 62) ≤ j ∧ j < 2 ^ 62 ∧ j - i ≤ 16777216) (p : Q (.new (rngL i (j - i).toNat)) h) : evX X (lrngR i (.dat (.int j)) h) Q := by
  show evX X (if (rngOk i && rngOk j && decide ((j - i).toNat ≤ 16777216)) = true then .ok (.new (rngL i (j - i).toNat)) h else .bad) Q
  rw [if_pos (by
    have h1 : rngOk i = true := by unfold rngOk; simp; omega
    have h2 : rngOk j = true := by unfold rngOk; simp; omega
    rw [h1, h2, decide_eq_true (by omega)]; rfl)]
  exact p
theorem w_lrngR2 {i : Int} {y : R} (p : evX X (lrngR i y h) Q) : evX X (lrngR2 (.dat (.int i)) y h) Q := p
theorem w_max2 {i j : Int} (p : Q (.dat (.int (max i j))) h) : evX X (Res.of h (bltF h .max2 [.int i, .int j])) Q := by
  show Q (.dat (.int (if j > i then j else i))) h
  have e : (if j > i then j else i) = max i j := by rw [Int.max_def]; split <;> split <;> omega
  rw [e]; exact p
theorem w_min2 {i j : Int} (p : Q (.dat (.int (min i j))) h) : evX X (Res.of h (bltF h .min2 [.int i, .int j])) Q := by
  show Q (.dat (.int (if j < i then j else i))) h
  have e : (if j < i then j else i) = min i j := by rw [Int.min_def]; split <;> split <;> omega
  rw [e]; exact p
theorem intsOf_map : ∀ ns : List Int, intsOf (ns.map .int) = some ns
  | [] => rfl
  | n :: ns => by simp [intsOf, intsOf_map ns]
theorem w_sum {ns : List Int} (p : Q (.dat (.int ns.sum)) h) : evX X (Res.of h (bltF h .sum [.lst (ns.map .int)])) Q := by
  show evX X (Res.of h ((intsL h (.lst (ns.map .int))).map fun ns => R.dat (.int ns.sum))) Q
  have e : intsL h (.lst (ns.map .int)) = some ns := intsOf_map ns
  rw [e]; exact p
theorem w_maxL {ns : List Int} {m : Int} (e : maxI ns = some m) (p : Q (.dat (.int m)) h) : evX X (Res.of h (bltF h .maxL [.lst (ns.map .int)])) Q := by
  show evX X (Res.of h (((intsL h (.lst (ns.map .int))).bind maxI).map fun m => R.dat (.int m))) Q
  have e1 : intsL h (.lst (ns.map .int)) = some ns := intsOf_map ns
  rw [e1]
  show evX X (Res.of h ((maxI ns).map fun m => R.dat (.int m))) Q
  rw [e]; exact p
theorem w_minL {ns : List Int} {m : Int} (e : minI ns = some m) (p : Q (.dat (.int m)) h) : evX X (Res.of h (bltF h .minL [.lst (ns.map .int)])) Q := by
  show evX X (Res.of h (((intsL h (.lst (ns.map .int))).bind minI).map fun m => R.dat (.int m))) Q
  have e1 : intsL h (.lst (ns.map .int)) = some ns := intsOf_map ns
  rw [e1]
  show evX X (Res.of h ((minI ns).map fun m => R.dat (.int m))) Q
  rw [e]; exact p
theorem w_zip {a b : E} (p : evX X (evalE C G a env h) fun x h1 => evX X (evalE C G b env h1) fun y h2 => evX X (Res.of h2 (zipF x y)) QL) : evX X (evalI C G (.zip a b) env h) QL := by
  conv => arg 2; unfold evalI
  rw [ev_bind]
  refine ev_mono p fun x h1 p => ?_
  rw [ev_bind]; exact p
theorem w_zipT {l m : List D} (p : QL (zipL l m) h) : evX X (Res.of h (zipF (.dat (.tup l)) (.dat (.tup m)))) QL := p
theorem w_zipL {l m : List D} (p : QL (zipL l m) h) : evX X (Res.of h (zipF (.dat (.lst l)) (.dat (.lst m)))) QL := p
theorem w_zipLN {l m : List D} (p : QL (zipL l m) h) : evX X (Res.of h (zipF (.dat (.lst l)) (.new m))) QL := p
theorem w_fnv {x : Str} (p : Q (.dat (.sp false x [])) h) : evX X (evalE C G (.fnv x) env h) Q := by
  conv => arg 2; unfold evalE
  exact p
theorem w_isx {a : E} {c : Str} (p : evX X (evalE C G a env h) fun x h1 => evX X (isxR c h1 x) Q) : evX X (evalE C G (.isx a c) env h) Q := by
  conv => arg 2; unfold evalE
  rw [ev_bind]; exact p
theorem w_isxR {k c : Str} {l : List D} {b : Bool} (e : isxF k c = some b) (p : Q (.dat (.bl b)) h) : evX X (isxR c h (.dat (.sp true k l))) Q := by
  show evX X (Res.of h ((isxF k c).map fun b => .dat (.bl b))) Q
  rw [e]; exact p
def attrR (f : Str) (h : Hh) : R → Res R
  | .dat (.sp true k l) => Res.of h ((attrF k l f).map .dat)
  | _ => .bad
theorem w_attr {a : E} {f : Str} (p : evX X (evalE C G a env h) fun x h1 => evX X (attrR f h1 x) Q) : evX X (evalE C G (.attr a f) env h) Q := by
  conv => arg 2; unfold evalE
  rw [ev_bind]; exact p
theorem w_attrR {k f : Str} {l : List D} {d : D} (e : attrF k l f = some d) (p : Q (.dat d) h) : evX X (attrR f h (.dat (.sp true k l))) Q := by
  show evX X (Res.of h ((attrF k l f).map .dat)) Q
  rw [e]; exact p
def callvR (C : Calls') (G : Str → Option D) (es : Es) (env : Env') (h : Hh) : Option Slot → Res R
  | some (.val (.sp false x _)) => (evalEs C G es env h).bind fun ds h1 => C x ds h1
  | _ => .bad
theorem w_callv {i : Nat} {es : Es} {x : Str} {l : List D} (e : env[i]? = some (.val (.sp false x l))) (p : evX X (evalEs C G es env h) fun ds h1 => evX X (C x ds h1) Q) : evX X (evalE C G (.callv i es) env h) Q := by
  conv => arg 2; unfold evalE
  rw [e]
  show evX X ((evalEs C G es env h).bind fun ds h1 => C x ds h1) Q
  rw [ev_bind]; exact p
theorem w_told {f : Str} {e : E} (p : evX (fun x h1 => evX noX (C f [.sp true x.cls x.fs] h1) Q) (evalE C G e env h) fun r h1 => evX X (fzR r fun d => .ok (.new [d]) h1) Q) : evX X (evalE C G (.told f e) env h) Q := by
  conv => arg 2; unfold evalE
  cases q : evalE C G e env h with
  | bad => rw [q] at p; exact p.elim
  | ok r h1 =>
    rw [q] at p
    have p : evX X (fzR r fun d => .ok (.new [d]) h1) Q := p
    unfold fzR at p
    show evX X (match r.fz with
      | some d => .ok (.new [d]) h1
      | none => .bad) Q
    exact p
  | ex x h1 =>
    rw [q] at p
    show evX X (noEx (C f [.sp true x.cls x.fs] h1)) Q
    have p : evX noX (C f [.sp true x.cls x.fs] h1) Q := p
    cases q2 : C f [.sp true x.cls x.fs] h1 with
    | bad => rw [q2] at p; exact p.elim
    | ex y g => rw [q2] at p; exact p.elim
    | ok r g => rw [q2] at p; exact p
theorem w_con {d : D} (p : Q (.dat d) h) : evX X (evalE C G (.con d) env h) Q := by rw [x_con]; exact p
theorem w_glo {x : Str} {d : D} (e : G x = some d) (p : Q (.dat d) h) : evX X (evalE C G (.glo x) env h) Q := by rw [x_glo, e]; exact p
theorem w_bin {op : Bop} {a b : E} (p : evX X (evalE C G a env h) fun x h1 => evX X (evalE C G b env h1) fun y h2 => evX X (Res.of h2 (binF h2 op x y)) Q) : evX X (evalE C G (.bin op a b) env h) Q := by
  rw [x_bin]; simpa only [ev_bind] using p
theorem w_neg {a : E} (p : evX X (evalE C G a env h) fun x h1 => evX X (Res.of h1 (negF x)) Q) : evX X (evalE C G (.neg a) env h) Q := by
  rw [x_neg]; simpa only [ev_bind] using p
theorem w_cmp {op : Cop} {a b : E} (p : evX X (evalE C G a env h) fun x h1 => evX X (evalE C G b env h1) fun y h2 => evX X (ofR h2 (cmpF h2 op x y) fun b => .dat (.bl b)) Q) : evX X (evalE C G (.cmp op a b) env h) Q := by
  rw [x_cmp]; simpa only [ev_bind] using p
theorem w_chain {o1 o2 : Cop} {a b c : E} (p : evX X (evalE C G a env h) fun x h1 => evX X (evalE C G b env h1) fun y h2 => evX X (ofR h2 (cmpF h2 o1 x y) fun b => .dat (.bl b)) fun z h3 =>
    evX X (brR z ((evalE C G c env h3).bind fun z h3 => ofR h3 (cmpF h3 o2 y z) fun b => .dat (.bl b)) (.ok (.dat (.bl false)) h3)) Q) : evX X (evalE C G (.chain o1 o2 a b c) env h) Q := by
  rw [x_chain]; simpa only [ev_bind] using p
theorem w_and {a b : E} (p : evX X (evalE C G a env h) fun x h1 => evX X (brR x (evalE C G b env h1) (.ok (.dat (.bl false)) h1)) Q) : evX X (evalE C G (.and2 a b) env h) Q := by
  rw [x_and]; simpa only [ev_bind] using p
theorem w_or {a b : E} (p : evX X (evalE C G a env h) fun x h1 => evX X (brR x (.ok (.dat (.bl true)) h1) (evalE C G b env h1)) Q) : evX X (evalE C G (.or2 a b) env h) Q := by
  rw [x_or]; simpa only [ev_bind] using p
theorem w_not {a : E} (p : evX X (evalE C G a env h) fun x h1 => evX X (notR x h1) Q) : evX X (evalE C G (.not1 a) env h) Q := by
  rw [x_not]; simpa only [ev_bind] using p
theorem w_ite {c a b : E} (p : evX X (evalE C G c env h) fun x h1 => evX X (brR x (evalE C G a env h1) (evalE C G b env h1)) Q) : evX X (evalE C G (.ite c a b) env h) Q := by
  rw [x_ite]; simpa only [ev_bind] using p
theorem w_call {f : Str} {es : Es} (p : evX X (evalEs C G es env h) fun ds h1 => evX X (C f ds h1) Q) : evX X (evalE C G (.call f es) env h) Q := by
  rw [x_call]; simpa only [ev_bind] using p
theorem w_blt {f : Blt} {es : Es} (p : evX X (evalEs C G es env h) fun ds h1 => evX X (Res.of h1 (bltF h1 f ds)) Q) : evX X (evalE C G (.blt f es) env h) Q := by
  rw [x_blt]; simpa only [ev_bind] using p
theorem w_blt1 {f : Blt} {a : E} (p : evX X (evalE C G a env h) fun x h1 => evX X (Res.of h1 (bltR h1 f x)) Q) : evX X (evalE C G (.blt1 f a) env h) Q := by
  rw [x_blt1]; simpa only [ev_bind] using p
theorem w_isi {a : E} {t : Ty} (p : evX X (evalE C G a env h) fun x h1 => evX X (fzR x fun d => ofR h1 (isiF h1 t d) fun b => .dat (.bl b)) Q) : evX X (evalE C G (.isi a t) env h) Q := by
  rw [x_isi]; simpa only [ev_bind] using p
theorem w_mth {m : Mth} {o : E} {es : Es} (p : evX X (evalE C G o env h) fun x h1 => evX X (strR x fun a => (evalEs C G es env h1).bind fun ds h2 => Res.of h2 (mthF m a ds)) Q) : evX X (evalE C G (.mth m o es) env h) Q := by
  rw [x_mth]; simpa only [ev_bind] using p
theorem w_ix {a b : E} (p : evX X (evalE C G a env h) fun x h1 => evX X (evalE C G b env h1) fun y h2 => evX X (ofR h2 (ixF h2 x y) .dat) Q) : evX X (evalE C G (.ix a b) env h) Q := by
  rw [x_ix]; simpa only [ev_bind] using p
theorem w_dget {a b : E} (p : evX X (evalE C G a env h) fun x h1 => evX X (evalE C G b env h1) fun y h2 => evX X (ofR h2 (dgetF h2 x y) .dat) Q) : evX X (evalE C G (.dget a b) env h) Q := by
  rw [x_dget]; simpa only [ev_bind] using p
theorem w_sl {a : E} {lo hi : Oe} (p : evX X (evalE C G a env h) fun x h1 => evX X (evalO C G lo env h1) fun i h2 => evX X (evalO C G hi env h2) fun j h3 => evX X (Res.of h3 (slF h3 i j x)) Q) : evX X (evalE C G (.sl a lo hi) env h) Q := by
  rw [x_sl]; simpa only [ev_bind] using p
theorem w_tup {es : Es} (p : evX X (evalEs C G es env h) fun ds h1 => evX X (lenR ds (.ok (.dat (.tup ds)) h1)) Q) : evX X (evalE C G (.tup es) env h) Q := by
  rw [x_tup]; simpa only [ev_bind] using p
theorem w_lst {es : Es} (p : evX X (evalEs C G es env h) fun ds h1 => evX X (lenR ds (.ok (.new ds) h1)) Q) : evX X (evalE C G (.lst es) env h) Q := by
  rw [x_lst]; simpa only [ev_bind] using p
theorem w_dct {ks : List Key} {es : Es} (p : evX X (evalEs C G es env h) fun ds h1 => evX X (dctR ks ds h1) Q) : evX X (evalE C G (.dct ks es) env h) Q := by
  rw [x_dct]; simpa only [ev_bind] using p
theorem w_comp {own : List Nat} {t : Tg} {it : Iter} {c e : E} (p : evX X (evalI C G it env h) fun ds h1 => evX X (compR C G own t c e env ds h1) Q) : evX X (evalE C G (.comp own t it c e) env h) Q := by
  rw [x_comp]; simpa only [ev_bind] using p
theorem w_promo {e : E} (p : evX X (evalE C G e env h) fun x h1 => evX X (proR x h1) Q) : evX X (evalE C G (.promo e) env h) Q := by
  rw [x_promo]; simpa only [ev_bind] using p
theorem w_ono (p : QO none h) : evX X (evalO C G .no env h) QO := by rw [x_ono]; exact p
theorem w_opart {e : E} (p : evX X (evalE C G e env h) fun x h1 => evX X (intR x fun i => .ok (some i) h1) QO) : evX X (evalO C G (.part e) env h) QO := by
  rw [x_opart]; simpa only [ev_bind] using p
theorem w_nil (p : QL [] h) : evX X (evalEs C G .nil env h) QL := by rw [x_nil]; exact p
theorem w_cons {e : E} {es : Es} (p : evX X (evalE C G e env h) fun x h1 => evX X (fzR x fun d => (evalEs C G es env h1).bind fun ds h2 => .ok (d :: ds) h2) QL) : evX X (evalEs C G (.cons e es) env h) QL := by
  rw [x_cons]; simpa only [ev_bind] using p
theorem w_seq {e : E} (p : evX X (evalE C G e env h) fun x h1 => evX X (Res.of h1 (itF x)) QL) : evX X (evalI C G (.seq e) env h) QL := by
  rw [x_seq]; simpa only [ev_bind] using p
theorem w_rng1 {a : E} (p : evX X (evalE C G a env h) fun x h1 => evX X (rng1R x h1) QL) : evX X (evalI C G (.rng1 a) env h) QL := by
  rw [x_rng1]; simpa only [ev_bind] using p
theorem w_rng2 {a b : E} (p : evX X (evalE C G a env h) fun x h1 => evX X (evalE C G b env h1) fun y h2 => evX X (rngR x y h2) QL) : evX X (evalI C G (.rng2 a b) env h) QL := by
  rw [x_rng2]; simpa only [ev_bind] using p
theorem w_rng3 {a b c : E} (p : evX X (evalE C G a env h) fun x h1 => evX X (evalE C G b env h1) fun y h2 => evX X (evalE C G c env h2) fun z h3 => evX X (rng3R x y z h3) QL) : evX X (evalI C G (.rng3 a b c) env h) QL := by
  rw [x_rng3]; simpa only [ev_bind] using p
theorem w_enum {e : E} (p : evX X (evalE C G e env h) fun x h1 => evX X (ofR h1 (itL x) (enumL 0)) QL) : evX X (evalI C G (.enum e) env h) QL := by
  rw [x_enum]; simpa only [ev_bind] using p
/-! helpers, known -/
theorem w_ok {α : Type} {a : α} {QA : α → Hh → Prop} (p : QA a h) : evX X (.ok a h) QA := p
theorem w_bind {α β : Type} {r : Res α} {f : α → Hh → Res β} {QB : β → Hh → Prop} (p : evX X r fun a h => evX X (f a h) QB) : evX X (r.bind f) QB := by rw [ev_bind]; exact p
theorem w_fzD {α : Type} {d : D} {k : D → Res α} {QA : α → Hh → Prop} (p : evX X (k d) QA) : evX X (fzR (.dat d) k) QA := p
theorem w_fzN {α : Type} {d : List D} {k : D → Res α} {QA : α → Hh → Prop} (p : evX X (k (.lst d)) QA) : evX X (fzR (.new d) k) QA := p
theorem w_brt {α : Type} {a b : Res α} {QA : α → Hh → Prop} (p : evX X a QA) : evX X (brR (.dat (.bl true)) a b) QA := p
theorem w_brf {α : Type} {a b : Res α} {QA : α → Hh → Prop} (p : evX X b QA) : evX X (brR (.dat (.bl false)) a b) QA := p
theorem w_notR {k : Bool} (p : Q (.dat (.bl (!k))) h) : evX X (notR (.dat (.bl k)) h) Q := p
theorem w_strR {α : Type} {a : Str} {k : Str → Res α} {QA : α → Hh → Prop} (p : evX X (k a) QA) : evX X (strR (.dat (.str a)) k) QA := p
theorem w_intR {α : Type} {a : Int} {k : Int → Res α} {QA : α → Hh → Prop} (p : evX X (k a) QA) : evX X (intR (.dat (.int a)) k) QA := p
theorem w_tupR {α : Type} {a : List D} {k : List D → Res α} {QA : α → Hh → Prop} (p : evX X (k a) QA) : evX X (tupR (.dat (.tup a)) k) QA := p
theorem w_newR {α : Type} {a : List D} {k : List D → Res α} {QA : α → Hh → Prop} (p : evX X (k a) QA) : evX X (newR (.new a) k) QA := p
theorem w_optR {α β : Type} {o : Option α} {a : α} {k : α → Res β} {QA : β → Hh → Prop} (e : o = some a) (p : evX X (k a) QA) : evX X (optR o k) QA := by rw [e]; exact p
theorem w_lenR {ds : List D} {a : Res R} (e : ds.length ≤ sizeLine) (p : evX X a Q) : evX X (lenR ds a) Q := by rw [lenR_ok e]; exact p
theorem w_dctR {ks : List Key} {ds : List D} (e : ks.length ≤ 15 ∧ ks.Nodup) (p : Q (.dat (.ref h.length)) (h ++ [.dct (ks.zip ds)])) : evX X (dctR ks ds h) Q := by rw [dctR_ok e]; exact p
theorem w_proN {l : List D} (p : Q (.dat (.ref h.length)) (h ++ [.lst l])) : evX X (proR (.new l) h) Q := p
theorem w_proD {d : D} (p : Q (.dat d) h) : evX X (proR (.dat d) h) Q := p
theorem rng_ok1 {j : Int} (h1 : -4611686018427387904 ≤ j) (h2 : j < 4611686018427387904) : rngOk j = true := by unfold rngOk; simp; omega
theorem rng_ok2 {i j : Int} (h1 : -4611686018427387904 ≤ i) (h2 : i < 4611686018427387904) (h3 : -4611686018427387904 ≤ j) (h4 : j < 4611686018427387904) : (rngOk i && rngOk j) = true := by rw [rng_ok1 h1 h2, rng_ok1 h3 h4]; rfl
theorem w_rng1R {j : Int} (e : rngOk j = true) (p : QL (rngL 0 j.toNat) h) : evX X (rng1R (.dat (.int j)) h) QL := by rw [rng1R_ok e]; exact p
theorem w_rngR {i j : Int} (e : (rngOk i && rngOk j) = true) (p : QL (rngL i (j - i).toNat) h) : evX X (rngR (.dat (.int i)) (.dat (.int j)) h) QL := by rw [rngR_ok e]; exact p
theorem w_rngD {i j : Int} (e : (rngOk i && rngOk j) = true) (p : QL (rng3L i (-1) (i - j).toNat) h) : evX X (rng3R (.dat (.int i)) (.dat (.int j)) (.dat (.int (-1))) h) QL := by
  unfold rng3R
  simp only [Bool.and_eq_true] at e
  have h1 := rngOk_ e.1
  have h2 := rngOk_ e.2
  have hr := RgC.neg h1.1 h1.2 h2.1 h2.2
  show evX X (if (-1 : Int) ≠ 0 ∧ (-1 : Int).natAbs < 1073741824 ∧ Builtin.Range.small i j (-1) = true ∧ 0 ≤ Builtin.Range.rangeSize i j (-1) then Res.ok (rng3L i (-1) (Builtin.Range.rangeSize i j (-1)).toNat) h else Res.bad) QL
  rw [if_pos ⟨hr.1, hr.2.1, hr.2.2.1, by rw [hr.2.2.2]; omega⟩, hr.2.2.2]
  exact p
theorem w_of {α : Type} {o : Option α} {a : α} {QA : α → Hh → Prop} (e : o = some a) (p : QA a h) : evX X (Res.of h o) QA := by rw [e]; exact p
theorem w_ofR {α β : Type} {o : Option α} {a : α} {k : α → β} {QA : β → Hh → Prop} (e : o = some a) (p : QA (k a) h) : evX X (ofR h o k) QA := by rw [e]; exact p
/-! operations on numbers -/
theorem w_addI {i j : Int} (p : Q (.dat (.int (i + j))) h) : evX X (Res.of h (binF h .add (.dat (.int i)) (.dat (.int j)))) Q := p
theorem w_subI {i j : Int} (p : Q (.dat (.int (i - j))) h) : evX X (Res.of h (binF h .sub (.dat (.int i)) (.dat (.int j)))) Q := p
theorem w_mulI {i j : Int} (e : (near i || near j) = true) (p : Q (.dat (.int (i * j))) h) : evX X (Res.of h (binF h .mul (.dat (.int i)) (.dat (.int j)))) Q := by
  show evX X (Res.of h ((mulI i j).map .dat)) Q
  unfold mulI; rw [if_pos e]; exact p
theorem w_fdivI {i j : Int} (e : 0 < j ∧ j < 1073741824) (p : Q (.dat (.int (i / j))) h) : evX X (Res.of h (binF h .fdiv (.dat (.int i)) (.dat (.int j)))) Q := by
  show evX X (Res.of h ((fdivI i j).map .dat)) Q
  unfold fdivI; rw [if_pos (by omega), Int.fdiv_eq_ediv_of_nonneg _ (by omega)]; exact p
theorem w_modI {i j : Int} (e : 0 < j) (p : Q (.dat (.int (i % j))) h) : evX X (Res.of h (binF h .mod (.dat (.int i)) (.dat (.int j)))) Q := by
  show evX X (Res.of h ((modI i j).map .dat)) Q
  unfold modI; rw [if_pos (by omega), Int.fmod_eq_emod_of_nonneg _ (by omega)]; exact p
theorem w_powI {i j : Int} (e : 0 ≤ j ∧ j ≤ 1000000 ∧ i.natAbs < 2 ^ 64) (p : Q (.dat (.int (i ^ j.toNat))) h) : evX X (Res.of h (binF h .pow (.dat (.int i)) (.dat (.int j)))) Q := by
  show evX X (Res.of h ((powI i j).map .dat)) Q
  unfold powI; rw [if_pos e]; exact p
theorem w_negI {i : Int} (p : Q (.dat (.int (-i))) h) : evX X (Res.of h (negF (.dat (.int i)))) Q := p
theorem w_ltI {i j : Int} (p : Q (.dat (.bl (decide (i < j)))) h) : evX X (ofR h (cmpF h .lt (.dat (.int i)) (.dat (.int j))) fun b => R.dat (.bl b)) Q := p
theorem w_leI {i j : Int} (p : Q (.dat (.bl (decide (i ≤ j)))) h) : evX X (ofR h (cmpF h .le (.dat (.int i)) (.dat (.int j))) fun b => R.dat (.bl b)) Q := p
theorem w_gtI {i j : Int} (p : Q (.dat (.bl (decide (j < i)))) h) : evX X (ofR h (cmpF h .gt (.dat (.int i)) (.dat (.int j))) fun b => R.dat (.bl b)) Q := p
theorem w_geI {i j : Int} (p : Q (.dat (.bl (decide (j ≤ i)))) h) : evX X (ofR h (cmpF h .ge (.dat (.int i)) (.dat (.int j))) fun b => R.dat (.bl b)) Q := p
theorem w_eqI {i j : Int} (p : Q (.dat (.bl (decide (i = j)))) h) : evX X (ofR h (cmpF h .eq (.dat (.int i)) (.dat (.int j))) fun b => R.dat (.bl b)) Q := by
  have e : cmpF h .eq (.dat (.int i)) (.dat (.int j)) = some (decide (i = j)) := by
    show (if SeqAt.shaped (.int i) && SeqAt.shaped (.int j) then some (PyData.eqv (.int i) (.int j)) else none) = _
    have : PyData.eqv (.int i) (.int j) = decide (i = j) := by simp [PyData.eqv]; try rfl
    rw [this]; rfl
  exact w_ofR e p
/-! statements -/
theorem v_asg {i : Nat} {e : E} (p : evX X (evalE C G e env h) fun x h1 => evX X (fzR x fun d => .ok (.nx (env.set i (.val d))) h1) QF) : evX X (execS C G (.asg i e) env h) QF := by
  rw [y_asg]; simpa only [ev_bind] using p
theorem v_own {i : Nat} {e : E} (p : evX X (evalE C G e env h) fun x h1 => evX X (newR x fun l => .ok (.nx (env.set i (.own l))) h1) QF) : evX X (execS C G (.own i e) env h) QF := by
  rw [y_own]; simpa only [ev_bind] using p
theorem v_any {i : Nat} {e : E} (p : evX X (evalE C G e env h) fun x h1 => evX X (anyR i env h1 x) QF) : evX X (execS C G (.any i e) env h) QF := by
  rw [y_any]; simpa only [ev_bind] using p
theorem v_anyN {i : Nat} {l : List D} (p : QF (.nx (env.set i (.own l))) h) : evX X (anyR i env h (.new l)) QF := p
theorem v_anyD {i : Nat} {d : D} (p : QF (.nx (env.set i (.val d))) h) : evX X (anyR i env h (.dat d)) QF := p
theorem v_asgs {is : List Nat} {e : E} (p : evX X (evalE C G e env h) fun x h1 => evX X (tupR x fun ds => optR (setVs env is ds) fun env' => .ok (.nx env') h1) QF) : evX X (execS C G (.asgs is e) env h) QF := by
  rw [y_asgs]; simpa only [ev_bind] using p
theorem v_setL {o k e : E} (p : evX X (evalE C G e env h) fun v h1 => evX X (fzR v fun d => (evalE C G o env h1).bind fun x h2 => (evalE C G k env h2).bind fun y h3 => setLR x y d env h3) QF) : evX X (execS C G (.setL o k e) env h) QF := by
  rw [y_setL]; simpa only [ev_bind] using p
theorem v_setD {o k e : E} (p : evX X (evalE C G e env h) fun v h1 => evX X (fzR v fun d => (evalE C G o env h1).bind fun x h2 => (evalE C G k env h2).bind fun y h3 => setDR x y d env h3) QF) : evX X (execS C G (.setD o k e) env h) QF := by
  rw [y_setD]; simpa only [ev_bind] using p
theorem v_setOwn {i : Nat} {k e : E} (p : evX X (evalE C G e env h) fun v h1 => evX X (fzR v fun d => ownR env[i]? fun l => (evalE C G k env h1).bind fun y h2 => setOR l i y d env h2) QF) : evX X (execS C G (.setOwn i k e) env h) QF := by
  rw [y_setOwn]; simpa only [ev_bind] using p
theorem v_app {i : Nat} {e : E} {l : List D} (q : env[i]? = some (.own l)) (p : evX X (evalE C G e env h) fun v h1 => evX X (fzR v fun d => appR l i d env h1) QF) : evX X (execS C G (.app i e) env h) QF := by
  rw [y_app, q, ownR_own]; simpa only [ev_bind] using p
theorem v_ext {i : Nat} {e : E} {l : List D} (q : env[i]? = some (.own l)) (p : evX X (evalE C G e env h) fun v h1 => evX X (extR l i v env h1) QF) : evX X (execS C G (.ext i e) env h) QF := by
  rw [y_ext, q, ownR_own]; simpa only [ev_bind] using p
theorem v_expr {e : E} (p : evX X (evalE C G e env h) fun _ h1 => QF (.nx env) h1) : evX X (execS C G (.expr e) env h) QF := by
  rw [y_expr, ev_bind]; exact p
theorem v_ifs {c : E} {a b : Ss} (p : evX X (evalE C G c env h) fun x h1 => evX X (brR x (execSs C G a env h1) (execSs C G b env h1)) QF) : evX X (execS C G (.ifs c a b) env h) QF := by
  rw [y_ifs]; simpa only [ev_bind] using p
theorem v_for {t : Tg} {it : Iter} {b : Ss} (p : evX X (evalI C G it env h) fun ds h1 => evX X (forR C G t b ds env h1) QF) : evX X (execS C G (.for' t it b) env h) QF := by
  rw [y_for]; simpa only [ev_bind] using p
theorem v_whl {c : E} {b : Ss} (p : evX X (whlR C G c b whlMost env h) QF) : evX X (execS C G (.whl c b) env h) QF := by
  rw [y_whl]; exact p
theorem v_ret {e : E} (p : evX X (evalE C G e env h) fun x h1 => evX X (retR x h1) QF) : evX X (execS C G (.ret e) env h) QF := by
  rw [y_ret]; simpa only [ev_bind] using p
theorem v_retV {i : Nat} {l : List D} (q : env[i]? = some (.own l)) (p : QF (.rt (.new l)) h) : evX X (execS C G (.retV i) env h) QF := by
  rw [y_retV, q]; exact p
theorem v_retn (p : QF (.rt (.dat .non)) h) : evX X (execS C G .retn env h) QF := by rw [y_retn]; exact p
theorem v_pass (p : QF (.nx env) h) : evX X (execS C G .pass env h) QF := by rw [y_pass]; exact p
theorem v_raise {c : Str} {es : Es} (p : evX X (evalEs C G es env h) fun ds h1 => X ⟨c, ds⟩ h1) : evX X (execS C G (.raise c es) env h) QF := by
  conv => arg 2; unfold execS
  rw [ev_bind]; exact p
theorem v_brk (p : QF (.bk env) h) : evX X (execS C G .brk env h) QF := by rw [y_brk]; exact p
theorem v_cnt (p : QF (.ct env) h) : evX X (execS C G .cnt env h) QF := by rw [y_cnt]; exact p
theorem v_frz {i : Nat} {l : List D} (q : env[i]? = some (.own l)) (p : QF (.nx (env.set i (.val (.lst l)))) h) : evX X (execS C G (.frz i) env h) QF := by rw [y_frz, q]; exact p
theorem v_nil (p : QF (.nx env) h) : evX X (execSs C G .nil env h) QF := by rw [z_nil]; exact p
theorem v_cons {s : S} {ss : Ss} (p : evX X (execS C G s env h) (contFX X QF fun env' h' => execSs C G ss env' h')) : evX X (execSs C G (.cons s ss) env h) QF := by
  rw [z_cons, ev_seq]; exact p
theorem v_contN {k : Env' → Hh → Res Fl} (p : evX X (k env h) QF) : contFX X QF k (.nx env) h := p
theorem v_contR {k : Env' → Hh → Res Fl} {r : R} (p : QF (.rt r) h) : contFX X QF k (.rt r) h := p
theorem v_contB {k : Env' → Hh → Res Fl} (p : QF (.bk env) h) : contFX X QF k (.bk env) h := p
theorem v_contC {k : Env' → Hh → Res Fl} (p : QF (.ct env) h) : contFX X QF k (.ct env) h := p
theorem v_setLR {n : Nat} {i : Int} {l : List D} {j : Nat} {d : D} (e : h[n]? = some (.lst l)) (q : ixN l.length i = some j) (p : QF (.nx env) (h.set n (.lst (l.set j d)))) : evX X (setLR (.dat (.ref n)) (.dat (.int i)) d env h) QF := by rw [setLR_ok e q]; exact p
theorem v_setDR {n : Nat} {kd : D} {l : List (Key × D)} {kk : Key} {d : D} (e : h[n]? = some (.dct l)) (q : keyOf kd = some kk) (z : l.length < sizeLine) (p : QF (.nx env) (h.set n (.dct (dPut l kk d)))) : evX X (setDR (.dat (.ref n)) (.dat kd) d env h) QF := by rw [setDR_ok e q z]; exact p
theorem v_ownR {i : Nat} {l : List D} {k : List D → Res Fl} (q : env[i]? = some (.own l)) (p : evX X (k l) QF) : evX X (ownR env[i]? k) QF := by rw [q]; exact p
theorem v_setOR {l : List D} {i j : Nat} {z : Int} {d : D} (q : ixN l.length z = some j) (p : QF (.nx (env.set i (.own (l.set j d)))) h) : evX X (setOR l i (.dat (.int z)) d env h) QF := by rw [setOR_ok q]; exact p
theorem v_appR {l : List D} {i : Nat} {d : D} (z : l.length < sizeLine) (p : QF (.nx (env.set i (.own (l ++ [d])))) h) : evX X (appR l i d env h) QF := by rw [appR_ok z]; exact p
theorem v_extR {l m : List D} {i : Nat} {v : R} (e : lv h v = some m) (z : l.length + m.length ≤ sizeLine) (p : QF (.nx (env.set i (.own (l ++ m)))) h) : evX X (extR l i v env h) QF := by rw [extR_ok e z]; exact p
theorem v_retD {d : D} (p : QF (.rt (.dat d)) h) : evX X (retR (.dat d) h) QF := p
theorem v_retN {d : List D} (p : QF (.rt (.new d)) h) : evX X (retR (.new d) h) QF := p
theorem v_endR {r : R} (p : Q r h) : endQ Q (.rt r) h := p
theorem v_endN (p : Q (.dat .non) h) : endQ Q (.nx env) h := p
theorem v_run {T : Tab} {G : Str → Option D} {n : Nat} {f : Str} {d : Fn} (e : T f = some d) {ds : List D} (hl : ds.length = d.pars) (p : evX X (execSs (run T G n) G d.body (d.env ds) h) (endQ Q)) : evX X (run T G (n + 1) f ds h) Q := by
  rw [run_s e ds h hl, ev_rt]; exact p
theorem w_compG {c e : E} {QC : Option D → Hh → Prop} (p : evX X (evalE C G c env h) fun b h3 => evX X (brR b ((evalE C G e env h3).bind fun x h4 => fzR x fun y => .ok (some y) h4) (.ok none h3)) QC) : evX X (compG C G c e env h) QC := by
  rw [x_compG]; simpa only [ev_bind] using p
/-- an answer that is known -/
theorem ev_eq {α : Type} {r : Res α} {a : α} {h' : Hh} (p : evX noX r fun x g => x = a ∧ g = h') : r = .ok a h' := by
  cases r with
  | ok x g => obtain ⟨rfl, rfl⟩ := p; rfl
  | _ => exact p.elim
theorem ev_exq {α : Type} {r : Res α} {x : Exc} {h' : Hh} (p : evX (fun y g => y = x ∧ g = h') r fun _ _ => False) : r = .ex x h' := by
  cases r with
  | ok x g => exact p.elim
  | ex y g => obtain ⟨rfl, rfl⟩ := p; rfl
  | bad => exact p.elim
theorem ev_ofX {α : Type} {r : Res α} {x : Exc} {h' : Hh} {QA : α → Hh → Prop} (e : r = .ex x h') (p : X x h') : evX X r QA := by rw [e]; exact p
theorem ev_of {α : Type} {r : Res α} {a : α} {h' : Hh} {QA : α → Hh → Prop} (e : r = .ok a h') (p : QA a h') : evX X r QA := by rw [e]; exact p
end
/-- nothing raised -/
abbrev ev {α : Type} (r : Res α) (Q : α → Hh → Prop) : Prop := evX noX r Q
end Mi
/-! Mi12: the laws' drawing: mixed, folded, draw, begun. -/
namespace Mi
open PySem PySem.Spec PyProof.Rows L2
variable {X : Exc → Hh → Prop}

theorem near_iff {i : Int} : near i = true ↔ -(2 ^ 64) < i ∧ i < 2 ^ 64 := by unfold near; simp
theorem near_r {i j : Int} (h : near j = true) : (near i || near j) = true := by rw [h, Bool.or_true]
theorem near_l {i j : Int} (h : near i = true) : (near i || near j) = true := by rw [h, Bool.true_or]
theorem near_ro {i j : Int} (h1 : -(2 ^ 64) < j) (h2 : j < 2 ^ 64) : (near i || near j) = true := near_r (near_iff.mpr ⟨h1, h2⟩)
theorem near_lo {i j : Int} (h1 : -(2 ^ 64) < i) (h2 : i < 2 ^ 64) : (near i || near j) = true := near_l (near_iff.mpr ⟨h1, h2⟩)
theorem w_dgetK {h : Hh} {n : Nat} {k : Str} {l : List (Key × D)} {d : D} {Q : R → Hh → Prop} (e : h[n]? = some (.dct l)) (q : dLook l (.inr k) = some d) (p : Q (.dat d) h) : evX X (ofR h (dgetF h (.dat (.ref n)) (.dat (.str k))) .dat) Q := by
  refine w_ofR ?_ p
  show (match dctOf h (.dat (.ref n)), (R.dat (.str k)) with
    | some l, .dat k => (keyOf k).bind fun j => dLook l j
    | _, _ => none) = _
  have : dctOf h (.dat (.ref n)) = some l := by simp only [dctOf, e]
  rw [this]
  exact q
local macro_rules | `(tactic| walk_at "mi") => `(tactic| first
  | with_reducible refine w_con ?_ | ((with_reducible refine' w_var ?e ?_); case e => rfl)
  | with_reducible refine w_bin ?_ | with_reducible refine w_fzD ?_ | with_reducible refine w_bind ?_ | with_reducible refine w_ok ?_
  | with_reducible refine w_addI ?_ | with_reducible refine w_subI ?_
  | with_reducible refine w_cons ?_ | with_reducible refine w_nil ?_ | with_reducible refine w_call ?_
  | with_reducible refine v_cons ?_ | ((with_reducible refine v_contN ?_); try simp only [setV, List.set_cons_succ, List.set_cons_zero]) | with_reducible refine v_contR ?_ | with_reducible refine v_asg ?_ | with_reducible refine v_ret ?_ | with_reducible refine v_retD ?_ | with_reducible refine v_endR ?_
  | with_reducible refine v_nil ?_ | with_reducible refine v_ifs ?_ | with_reducible refine w_brt ?_ | with_reducible refine w_brf ?_
  | with_reducible refine w_and ?_ | with_reducible refine w_or ?_ | with_reducible refine w_not ?_ | with_reducible refine w_notR ?_ | with_reducible refine w_ite ?_
  | with_reducible refine w_cmp ?_ | with_reducible refine w_chain ?_ | with_reducible refine w_ltI ?_ | with_reducible refine w_leI ?_ | with_reducible refine w_gtI ?_ | with_reducible refine w_geI ?_ | with_reducible refine w_eqI ?_
  | with_reducible refine w_isi ?_ | with_reducible refine w_blt ?_ | with_reducible refine w_ix ?_ | with_reducible refine w_dget ?_
  | ((with_reducible refine' w_modI ?e ?_); case e => (first | decide | omega))
  | ((with_reducible refine' w_fdivI ?e ?_); case e => (first | decide | omega))
  | ((with_reducible refine' w_mulI ?e ?_); case e => (first | exact near_r (by decide) | exact near_l (by decide) | exact near_ro (by omega) (by omega) | exact near_lo (by omega) (by omega)))
  | ((with_reducible refine' w_powI ?e ?_); case e => decide)
  | with_reducible refine w_neg ?_ | with_reducible refine w_negI ?_
  | with_reducible refine w_tup ?_ | with_reducible refine w_lst ?_ | ((with_reducible refine' w_lenR ?e ?_); case e => (first | decide | (simp only [List.length_cons, List.length_nil, Nat.zero_add, Nat.reduceAdd]; decide)))
  | with_reducible refine w_fzN ?_ | ((with_reducible refine' w_glo ?e ?_); case e => (first | assumption | rfl))
  | with_reducible refine w_sl ?_ | with_reducible refine w_ono ?_ | with_reducible refine w_opart ?_ | with_reducible refine w_intR ?_ | with_reducible refine w_strR ?_ | with_reducible refine w_tupR ?_ | with_reducible refine w_newR ?_ | ((with_reducible refine' w_optR ?e ?_); case e => rfl)
  | with_reducible refine w_mth ?_ | with_reducible refine w_comp ?_ | with_reducible refine w_seq ?_ | with_reducible refine w_rng1 ?_ | with_reducible refine w_rng2 ?_ | with_reducible refine w_rng3 ?_ | with_reducible refine w_enum ?_ | ((with_reducible refine' w_rng1R ?e ?_); case e => exact rng_ok1 (by omega) (by omega)) | ((with_reducible refine' w_rngR ?e ?_); case e => exact rng_ok2 (by omega) (by omega) (by omega) (by omega)) | ((with_reducible refine' w_rngD ?e ?_); case e => exact rng_ok2 (by omega) (by omega) (by omega) (by omega))
  | with_reducible refine w_promo ?_ | with_reducible refine w_proN ?_ | with_reducible refine w_proD ?_ | with_reducible refine w_dct ?_ | ((with_reducible refine' w_dctR ?e ?_); case e => decide)
  | with_reducible refine v_own ?_ | with_reducible refine v_any ?_ | with_reducible refine v_anyN ?_ | with_reducible refine v_anyD ?_ | with_reducible refine w_blt1 ?_ | with_reducible refine v_asgs ?_ | with_reducible refine v_setL ?_ | with_reducible refine v_setD ?_ | with_reducible refine v_setOwn ?_ | ((with_reducible refine' v_ownR ?e ?_); case e => rfl)
  | ((with_reducible refine' v_app ?e ?_); case e => rfl) | ((with_reducible refine' v_ext ?e ?_); case e => rfl) | with_reducible refine v_expr ?_ | with_reducible refine v_for ?_ | with_reducible refine v_whl ?_
  | ((with_reducible refine' v_retV ?e ?_); case e => rfl) | with_reducible refine v_retn ?_ | with_reducible refine v_pass ?_ | with_reducible refine v_brk ?_ | with_reducible refine v_cnt ?_ | ((with_reducible refine' v_frz ?e ?_); case e => rfl)
  | with_reducible refine v_contB ?_ | with_reducible refine v_contC ?_ | with_reducible refine v_retN ?_ | with_reducible refine v_endN ?_ | with_reducible refine w_compG ?_
  | ((with_reducible refine' w_varO ?e ?_); case e => rfl)
  | ((with_reducible refine' w_dgetK ?e ?q ?_); (case e => first | assumption | rfl); (case q => rfl); (try dsimp only)))

def b_mixed : Ss := (.cons (.asg 2 (.bin .add (.bin .add (.bin .mod (.bin .mul (.bin .mul (.var 0) (.bin .add (.con (.int 1)) (.bin .mul (.con (.int 2)) (.var 1)))) (.con (.int 48271))) (.con (.int 2147483647))) (.bin .mul (.bin .mul (.con (.int 7919)) (.var 1)) (.var 1))) (.bin .mul (.con (.int 104729)) (.var 1)))) (.cons (.ret (.bin .fdiv (.bin .mod (.bin .mul (.var 2) (.con (.int 69621))) (.con (.int 2147483629))) (.con (.int 7)))) .nil))
def f_mixed : Fn := ⟨2, 3, b_mixed⟩
section
variable {T : Tab} {G : Str → Option D} {n : Nat} {h : Hh}
theorem mixed_ok (hT : T "_law_mixed" = some f_mixed) {c k : Int} (h1 : -(2 ^ 62) < k) (h2 : k < 2 ^ 62) : evX X (run T G (n + 1) "_law_mixed" [.int c, .int k] h) fun r h' => h' = h ∧ ∃ x : Int, r = .dat (.int x) ∧ 0 ≤ x ∧ x < 2 ^ 31 := by
  refine v_run hT rfl ?_
  unfold f_mixed b_mixed
  simp only [Fn.env, List.map_cons, List.map_nil, Nat.reduceSub, List.replicate_succ, List.replicate_zero, List.cons_append, List.nil_append]
  repeat walk_at "mi"
  refine ⟨rfl, _, rfl, ?_, ?_⟩
  · have := Int.emod_nonneg (((c * (1 + 2 * k) * 48271) % 2147483647 + 7919 * k * k + 104729 * k) * 69621) (show (2147483629 : Int) ≠ 0 by decide)
    omega
  · have := Int.emod_lt_of_pos (((c * (1 + 2 * k) * 48271) % 2147483647 + 7919 * k * k + 104729 * k) * 69621) (show (0 : Int) < 2147483629 by decide)
    omega
end
/-! ### lists of numbers -/
theorem pyAll_ints : ∀ ls : List Int, pyAll (ls.map .int) = some (ls.map .int)
  | [] => by simp [pyAll]
  | x :: xs => by simp [pyAll, D.py, pyAll_ints xs]
theorem shaped_ints (ls : List Int) : SeqAt.shaped (.list (ls.map .int)) = true := by
  have h1 : ∀ l : List Int, PyData.canLayAll0 (l.map .int) = true := by
    intro l
    induction l with
    | nil => rfl
    | cons x xs ih => simpa [PyData.canLayAll0, PyData.canLay0] using ih
  have h2 : ∀ l : List Int, PyData.depthAll (l.map .int) = 0 := by
    intro l
    induction l with
    | nil => rfl
    | cons x xs ih => simp [PyData.depthAll, PyData.depth, ih]
  unfold SeqAt.shaped
  simp [PyData.canLay0, PyData.depth, h1, h2]
theorem atI_in {α : Type} {l : List α} {i : Int} (h0 : 0 ≤ i) (h1 : i.toNat < l.length) : atI l i = some l[i.toNat] := by
  have : ixN l.length i = some i.toNat := by unfold ixN; rw [if_pos h0, if_pos (by omega)]
  unfold atI
  rw [this]
  exact List.getElem?_eq_getElem h1
theorem ixN_in {n : Nat} {i : Int} (h0 : 0 ≤ i) (h1 : i < n) : ixN n i = some i.toNat := by unfold ixN; rw [if_pos h0, if_pos h1]
theorem w_ixL {h : Hh} {n : Nat} {l : List D} {i : Int} {d : D} {Q : R → Hh → Prop} (e : h[n]? = some (.lst l)) (q : atI l i = some d) (p : Q (.dat d) h) : evX X (ofR h (ixF h (.dat (.ref n)) (.dat (.int i))) .dat) Q := by
  refine w_ofR ?_ p
  show (sv h (.dat (.ref n))).bind (fun l => atI l i) = some d
  have : sv h (.dat (.ref n)) = some l := by simp only [sv, lv, e]
  rw [this]
  exact q
theorem w_lenL {h : Hh} {n : Nat} {l : List D} {Q : R → Hh → Prop} (e : h[n]? = some (.lst l)) (p : Q (.dat (.int l.length)) h) : evX X (Res.of h (bltF h .len [.ref n])) Q := by
  refine w_of ?_ p
  show (sv h (.dat (.ref n))).map (fun l => R.dat (.int l.length)) = _
  have : sv h (.dat (.ref n)) = some l := by simp only [sv, lv, e]
  rw [this]
  rfl
/-- the drawing state: its dict at m, its cells at ci, what is left at li; drawn at most b times -/
def drO (ci li : Nat) (a : Int) : O := .dct [(.inr "cells", .ref ci), (.inr "left", .ref li), (.inr "at", .int a)]
structure Dr (h : Hh) (m ci li : Nat) (b : Int) : Prop where
  ex : ∃ (cs ls : List Int) (a : Int), h[m]? = some (drO ci li a) ∧ h[ci]? = some (.lst (cs.map .int)) ∧ cs.length = 64 ∧ (∀ c ∈ cs, 0 ≤ c ∧ c < 2 ^ 31) ∧ h[li]? = some (.lst (ls.map .int)) ∧ (∀ x ∈ ls, 0 ≤ x) ∧ 0 ≤ a ∧ a ≤ b
  cm : ci ≠ m
  lm : li ≠ m
  cl : ci ≠ li
/-- all else stays -/
def Kp (m li : Nat) (h h' : Hh) : Prop := h.length ≤ h'.length ∧ ∀ j, j < h.length → j ≠ m → j ≠ li → h'[j]? = h[j]?
theorem Kp.refl {m li : Nat} {h : Hh} : Kp m li h h := ⟨Nat.le_refl _, fun _ _ _ _ => rfl⟩
theorem Kp.trans {m li : Nat} {h h1 h2 : Hh} (a : Kp m li h h1) (b : Kp m li h1 h2) : Kp m li h h2 := ⟨Nat.le_trans a.1 b.1, fun j hj n1 n2 => by rw [b.2 j (Nat.lt_of_lt_of_le hj a.1) n1 n2, a.2 j hj n1 n2]⟩
theorem Kp.set1 {m li : Nat} {h : Hh} {o : O} : Kp m li h (h.set m o) := ⟨by simp, fun j _ n1 _ => List.getElem?_set_ne (Ne.symm n1)⟩
theorem Kp.set2 {m li : Nat} {h : Hh} {o : O} : Kp m li h (h.set li o) := ⟨by simp, fun j _ _ n2 => List.getElem?_set_ne (Ne.symm n2)⟩
theorem Dr.mono {h : Hh} {m ci li : Nat} {b b' : Int} (d : Dr h m ci li b) (hb : b ≤ b') : Dr h m ci li b' := by
  obtain ⟨⟨cs, ls, a, q1, q2, q3, q4, q5, q6, q7, q8⟩, z1, z2, z3⟩ := d
  exact ⟨⟨cs, ls, a, q1, q2, q3, q4, q5, q6, q7, by omega⟩, z1, z2, z3⟩
theorem get_set_self {h : Hh} {m : Nat} {o o' : O} (e : h[m]? = some o) : (h.set m o')[m]? = some o' := List.getElem?_set_self (List.getElem?_eq_some_iff.mp e).1
theorem put_at {ci li : Nat} {a : Int} {d : D} : dPut [(.inr "cells", .ref ci), (.inr "left", .ref li), (.inr "at", .int a)] (.inr "at") d = [(.inr "cells", .ref ci), (.inr "left", .ref li), (.inr "at", d)] := by rfl
theorem ne_left {h : Hh} {li : Nat} {ls : List Int} {Q : R → Hh → Prop} (e : h[li]? = some (.lst (ls.map .int))) (p : Q (.dat (.bl (decide (ls ≠ [])))) h) : evX X (ofR h (cmpF h .ne (.dat (.ref li)) (.new [])) fun b => R.dat (.bl b)) Q := by
  have q : eqF h (.dat (.ref li)) (.new []) = some (decide (ls = [])) := by
    unfold eqF
    have e1 : (R.dat (.ref li)).pyH h = some (.list (ls.map .int)) := by simp only [R.pyH, e, pyAll_ints]; rfl
    have e2 : (R.new []).pyH h = some (.list []) := rfl
    show (match (R.dat (.ref li)).pyH h, (R.new []).pyH h with
      | some a, some b => if SeqAt.shaped a && SeqAt.shaped b then some (PyData.eqv a b) else none
      | _, _ => none) = _
    rw [e1, e2]
    show (if (SeqAt.shaped _ && SeqAt.shaped (.list [])) = true then _ else _) = _
    rw [shaped_ints, if_pos (by rfl)]
    cases ls <;> rfl
  refine w_ofR (a := decide (ls ≠ [])) ?_ p
  show (eqF h _ _).map (!·) = _
  rw [q]
  simp
def b_draw : Ss := (.cons (.asg 2 (.dget (.var 0) (.con (.str "at")))) (.cons (.setD (.var 0) (.con (.str "at")) (.bin .add (.var 2) (.con (.int 1)))) (.cons (.ifs (.cmp .ne (.dget (.var 0) (.con (.str "left"))) (.lst .nil)) (.cons (.asg 3 (.bin .mod (.var 2) (.blt .len (.cons (.dget (.var 0) (.con (.str "left"))) .nil)))) (.cons (.asg 4 (.ix (.dget (.var 0) (.con (.str "left"))) (.var 3))) (.cons (.ifs (.cmp .gt (.var 4) (.con (.int 0))) (.cons (.setL (.dget (.var 0) (.con (.str "left"))) (.var 3) (.bin .fdiv (.var 4) (.var 1))) (.cons (.ret (.bin .mod (.var 4) (.var 1))) .nil)) .nil) .nil))) .nil) (.cons (.ret (.bin .mod (.call "_law_mixed" (.cons (.call "_law_mixed" (.cons (.bin .add (.ix (.dget (.var 0) (.con (.str "cells"))) (.bin .mod (.var 2) (.con (.int 64)))) (.bin .mul (.con (.int 31)) (.bin .fdiv (.var 2) (.con (.int 64))))) (.cons (.var 2) .nil))) (.cons (.bin .add (.var 2) (.con (.int 7))) .nil))) (.var 1))) .nil))))
def f_draw : Fn := ⟨2, 5, b_draw⟩
section
variable {T : Tab} {G : Str → Option D} {n : Nat} {h : Hh}
theorem draw_tail (hM : T "_law_mixed" = some f_mixed) {m ci li : Nat} {b a many : Int} {s3 s4 : Slot} (d : Dr h m ci li b) (hb : b < 2 ^ 60) (hm : 0 < many) (ha0 : 0 ≤ a) (ha1 : a ≤ b) :
    evX X (execSs (run T G (n + 1)) G (.cons (.ret (.bin .mod (.call "_law_mixed" (.cons (.call "_law_mixed" (.cons (.bin .add (.ix (.dget (.var 0) (.con (.str "cells"))) (.bin .mod (.var 2) (.con (.int 64)))) (.bin .mul (.con (.int 31)) (.bin .fdiv (.var 2) (.con (.int 64))))) (.cons (.var 2) .nil))) (.cons (.bin .add (.var 2) (.con (.int 7))) .nil))) (.var 1))) .nil)
      [.val (.ref m), .val (.int many), .val (.int a), s3, s4] h) (endQ fun r h' => ∃ x : Int, r = .dat (.int x) ∧ 0 ≤ x ∧ x < many ∧ h' = h) := by
  obtain ⟨⟨cs, ls, a0, q1, q2, q3, q4, q5, q6, q7, q8⟩, z1, z2, z3⟩ := d
  repeat walk_at "mi"
  have hi : (a % 64).toNat < cs.length := by omega
  refine w_ixL q2 (atI_in (by omega) (by simpa using hi)) ?_
  rw [List.getElem_map]
  repeat walk_at "mi"
  refine ev_mono (mixed_ok hM (by omega) (by omega)) ?_
  rintro r h1 ⟨rfl, x, rfl, x0, x1⟩
  repeat walk_at "mi"
  refine ev_mono (mixed_ok hM (by omega) (by omega)) ?_
  rintro r h1 ⟨rfl, y, rfl, y0, y1⟩
  repeat walk_at "mi"
  exact ⟨_, rfl, Int.emod_nonneg _ (by omega), Int.emod_lt_of_pos _ hm, rfl⟩
theorem draw_ok (hM : T "_law_mixed" = some f_mixed) (hT : T "_law_draw" = some f_draw) {m ci li : Nat} {b many : Int} (d : Dr h m ci li b) (hb : b < 2 ^ 59) (hm : 0 < many) (hm2 : many < 2 ^ 30) :
    evX X (run T G (n + 2) "_law_draw" [.ref m, .int many] h) fun r h' => ∃ x : Int, r = .dat (.int x) ∧ 0 ≤ x ∧ x < many ∧ Dr h' m ci li (b + 1) ∧ Kp m li h h' := by
  have d0 := d
  obtain ⟨⟨cs, ls, a, q1, q2, q3, q4, q5, q6, q7, q8⟩, z1, z2, z3⟩ := d
  refine v_run hT rfl ?_
  unfold f_draw b_draw
  simp only [Fn.env, List.map_cons, List.map_nil, Nat.reduceSub, List.replicate_succ, List.replicate_zero, List.cons_append, List.nil_append]
  unfold drO at q1
  repeat walk_at "mi"
  refine v_setDR q1 rfl (show 3 < sizeLine by decide) ?_
  rw [put_at]
  have g1 := get_set_self (o' := drO ci li (a + 1)) q1
  have g2 : (h.set m (drO ci li (a + 1)))[ci]? = _ := (List.getElem?_set_ne (Ne.symm z1)).trans q2
  have g3 : (h.set m (drO ci li (a + 1)))[li]? = _ := (List.getElem?_set_ne (Ne.symm z2)).trans q5
  have d1 : Dr (h.set m (drO ci li (a + 1))) m ci li (b + 1) := ⟨⟨cs, ls, a + 1, g1, g2, q3, q4, g3, q6, by omega, by omega⟩, z1, z2, z3⟩
  have k1 : Kp m li h (h.set m (drO ci li (a + 1))) := Kp.set1
  change contFX X _ _ (.nx _) (h.set m (drO ci li (a + 1)))
  generalize h.set m (drO ci li (a + 1)) = hh at *
  unfold drO at g1
  repeat walk_at "mi"
  refine ne_left g3 ?_
  have tail : ∀ {s3 s4 : Slot}, evX X (execSs (run T G (n + 1)) G (.cons (.ret (.bin .mod (.call "_law_mixed" (.cons (.call "_law_mixed" (.cons (.bin .add (.ix (.dget (.var 0) (.con (.str "cells"))) (.bin .mod (.var 2) (.con (.int 64)))) (.bin .mul (.con (.int 31)) (.bin .fdiv (.var 2) (.con (.int 64))))) (.cons (.var 2) .nil))) (.cons (.bin .add (.var 2) (.con (.int 7))) .nil))) (.var 1))) .nil)
      [.val (.ref m), .val (.int many), .val (.int a), s3, s4] hh) (endQ fun r h' => ∃ x : Int, r = .dat (.int x) ∧ 0 ≤ x ∧ x < many ∧ Dr h' m ci li (b + 1) ∧ Kp m li h h') := by
    intro s3 s4
    refine ev_mono (draw_tail hM d1 (by omega) hm q7 (by omega)) ?_
    rintro fl h' z
    cases fl with
    | rt r =>
      obtain ⟨x, e1, e2, e3, rfl⟩ := z
      exact ⟨x, e1, e2, e3, d1, k1⟩
    | nx e => obtain ⟨x, e1, _⟩ := z; cases e1
    | bk e => exact z
    | ct e => exact z
  by_cases hl : ls = []
  · rw [show decide (ls ≠ []) = false by simpa using hl]
    iterate 3 walk_at "mi"
    exact tail
  · rw [show decide (ls ≠ []) = true by simpa using hl]
    repeat walk_at "mi"
    refine w_lenL g3 ?_
    have hp : 0 < ls.length := List.length_pos_iff.mpr hl
    rw [List.length_map]
    repeat walk_at "mi"
    have hi : (a % (ls.length : Int)).toNat < ls.length := by
      have := Int.emod_lt_of_pos a (show (0 : Int) < ls.length by omega)
      omega
    have hi0 : 0 ≤ a % (ls.length : Int) := Int.emod_nonneg _ (by omega)
    refine w_ixL g3 (atI_in hi0 (by simpa using hi)) ?_
    rw [List.getElem_map]
    have hx := q6 _ (List.getElem_mem hi)
    generalize ls[(a % (ls.length : Int)).toNat] = x at hx
    repeat walk_at "mi"
    refine ev_br (fun hx0 => ?_) (fun hx0 => ?_)
    · repeat walk_at "mi"
      refine v_setLR g3 (ixN_in hi0 (by simp; omega)) ?_
      repeat walk_at "mi"
      refine ⟨_, rfl, Int.emod_nonneg _ (by omega), Int.emod_lt_of_pos _ hm, ?_, k1.trans Kp.set2⟩
      refine ⟨⟨cs, ls.set (a % (ls.length : Int)).toNat (x / many), a + 1, ?_, ?_, q3, q4, ?_, ?_, by omega, by omega⟩, z1, z2, z3⟩
      · rw [List.getElem?_set_ne z2]; exact g1
      · rw [List.getElem?_set_ne (Ne.symm z3)]; exact g2
      · rw [get_set_self g3, List.map_set]
      · intro y hy
        rcases List.mem_or_eq_of_mem_set hy with hy | rfl
        · exact q6 y hy
        · exact Int.ediv_nonneg hx (by omega)
    · iterate 4 walk_at "mi"
      exact tail
end
/-! ### folded -/
def b_folded : Ss := (.cons (.own 1 (.comp [2] (.nm 2) (.rng1 (.con (.int 64))) (.con (.bl true)) (.bin .add (.con (.int 17)) (.var 2)))) (.cons (.for' (.tp [2, 3]) (.enum (.var 0)) (.cons (.setOwn 1 (.bin .mod (.var 2) (.con (.int 64))) (.bin .mod (.bin .add (.bin .mul (.ix (.var 1) (.bin .mod (.var 2) (.con (.int 64)))) (.con (.int 48271))) (.var 3)) (.con (.int 2147483647)))) .nil)) (.cons (.for' (.nm 2) (.rng2 (.con (.int 1)) (.con (.int 64))) (.cons (.setOwn 1 (.var 2) (.bin .mod (.bin .add (.ix (.var 1) (.var 2)) (.bin .mul (.ix (.var 1) (.bin .sub (.var 2) (.con (.int 1)))) (.con (.int 16807)))) (.con (.int 2147483647)))) .nil)) (.cons (.retV 1) .nil))))
def f_folded : Fn := ⟨1, 4, b_folded⟩
theorem rngL_get {lo : Int} {n i : Nat} {d : D} (e : (rngL lo n)[i]? = some d) : i < n ∧ d = .int (lo + (i : Nat)) := by
  unfold rngL at e
  rw [List.getElem?_map] at e
  by_cases hi : i < n
  · rw [List.getElem?_range hi] at e
    exact ⟨hi, (Option.some.inj e).symm⟩
  · rw [List.getElem?_eq_none (by simpa using hi)] at e
    cases e
theorem rngL_mem {lo : Int} {n : Nat} {d : D} (h : d ∈ rngL lo n) : ∃ i : Nat, i < n ∧ d = .int (lo + (i : Nat)) := by
  obtain ⟨i, hi⟩ := List.getElem?_of_mem h
  exact ⟨i, rngL_get hi⟩
theorem rngL_length {lo : Int} {n : Nat} : (rngL lo n).length = n := by simp [rngL]
theorem w_ixB {h : Hh} {l : List D} {i : Int} {d : D} {Q : R → Hh → Prop} (q : atI l i = some d) (p : Q (.dat d) h) : evX X (ofR h (ixF h (.bor l) (.dat (.int i))) .dat) Q := by
  refine w_ofR ?_ p
  exact q
def Cells (cs : List Int) : Prop := cs.length = 64 ∧ ∀ c ∈ cs, 0 ≤ c ∧ c < 2 ^ 31
theorem Cells.set {cs : List Int} (h : Cells cs) (j : Nat) (x : Int) : Cells (cs.set j (x % 2147483647)) := by
  refine ⟨by simpa using h.1, fun c hc => ?_⟩
  rcases List.mem_or_eq_of_mem_set hc with hc | rfl
  · exact h.2 c hc
  · have := Int.emod_nonneg x (show (2147483647 : Int) ≠ 0 by decide)
    have := Int.emod_lt_of_pos x (show (0 : Int) < 2147483647 by decide)
    omega
theorem set_ints (cs : List Int) (j : Nat) (x : Int) : (cs.map D.int).set j (.int x) = (cs.set j x).map D.int := (List.map_set ..).symm
section
variable {T : Tab} {G : Str → Option D} {n : Nat} {h : Hh}
theorem folded_ok (hT : T "_law_folded" = some f_folded) {ns : List Int} :
    evX X (run T G (n + 1) "_law_folded" [scriptD ns] h) fun r h' => h' = h ∧ ∃ cs : List Int, r = .new (cs.map .int) ∧ Cells cs := by
  refine v_run hT rfl ?_
  unfold f_folded b_folded scriptD
  simp only [Fn.env, List.map_cons, List.map_nil, Nat.reduceSub, List.replicate_succ, List.replicate_zero, List.cons_append, List.nil_append]
  repeat walk_at "mi"
  refine ev_of (comp_map (fun d => match d with | .int i => .int (17 + i) | d => d) (by rw [rngL_length]; decide) fun d hd => ?_) ?_
  · obtain ⟨i, hi, rfl⟩ := rngL_mem hd
    refine ev_eq ?_
    show evX _ (compG _ _ _ _ _ h) _
    repeat walk_at "mi"
    exact ⟨rfl, rfl⟩
  have e1 : (rngL 0 (64 : Int).toNat).map (fun d => match d with | .int i => .int (17 + i) | d => d) = ((List.range 64).map fun i : Nat => (17 + (i : Int))).map D.int := by
    simp [rngL]
  rw [List.nil_append, e1]
  have c0 : Cells ((List.range 64).map fun i : Nat => (17 + (i : Int))) := ⟨by simp, fun c hc => by
    obtain ⟨i, hi, rfl⟩ := List.mem_map.mp hc
    have := List.mem_range.mp hi
    omega⟩
  generalize (List.range 64).map (fun i : Nat => (17 + (i : Int))) = cs at c0
  repeat walk_at "mi"
  refine w_ofR (a := ns.map .int) rfl ?_
  refine ev_for (fun _ e g => g = h ∧ ∃ cs s2 s3, e = [.val (.arg (ns.map .int)), .own (cs.map .int), s2, s3] ∧ Cells cs) ⟨rfl, cs, _, _, rfl, c0⟩ ?_ ?_
  · rintro i d e g hd ⟨rfl, cs, s2, s3, rfl, hc⟩
    obtain ⟨d', g1, rfl⟩ := enum_get hd
    rw [List.getElem?_map] at g1
    obtain ⟨x, _, rfl⟩ := Option.map_eq_some_iff.mp g1
    refine ⟨_, rfl, ?_⟩
    repeat walk_at "mi"
    have hj : ((((0 + i : Nat)) : Int) % 64).toNat < cs.length := by rw [hc.1]; omega
    refine w_ixB (atI_in (by omega) (by simpa using hj)) ?_
    rw [List.getElem_map]
    repeat walk_at "mi"
    refine v_setOR (ixN_in (by omega) (by rw [List.length_map, hc.1]; omega)) ?_
    rw [set_ints]
    repeat walk_at "mi"
    exact ⟨rfl, _, _, _, rfl, hc.set _ _⟩
  · rintro e g ⟨rfl, cs, s2, s3, rfl, hc⟩
    repeat walk_at "mi"
    refine ev_for (fun _ e g' => g' = g ∧ ∃ cs s2 s3, e = [.val (.arg (ns.map .int)), .own (cs.map .int), s2, s3] ∧ Cells cs) ⟨rfl, cs, _, _, rfl, hc⟩ ?_ ?_
    · rintro i d e g hd ⟨rfl, cs, s2, s3, rfl, hc⟩
      obtain ⟨hi, rfl⟩ := rngL_get hd
      have hi : i < 63 := hi
      refine ⟨_, rfl, ?_⟩
      repeat walk_at "mi"
      refine w_ixB (atI_in (by omega) (by rw [List.length_map, hc.1]; omega)) ?_
      rw [List.getElem_map]
      repeat walk_at "mi"
      refine w_ixB (atI_in (by omega) (by rw [List.length_map, hc.1]; omega)) ?_
      rw [List.getElem_map]
      repeat walk_at "mi"
      refine v_setOR (ixN_in (by omega) (by rw [List.length_map, hc.1]; omega)) ?_
      rw [set_ints]
      repeat walk_at "mi"
      exact ⟨rfl, _, _, _, rfl, hc.set _ _⟩
    · rintro e g ⟨rfl, cs, s2, s3, rfl, hc⟩
      repeat walk_at "mi"
      exact ⟨rfl, cs, rfl, hc⟩
def b_begun : Ss := (.cons (.asg 1 (.dct [.inr "cells", .inr "left", .inr "at"] (.cons (.promo (.call "_law_folded" (.cons (.var 0) .nil))) (.cons (.promo (.lst .nil)) (.cons (.con (.int 0)) .nil))))) (.cons (.setD (.var 1) (.con (.str "left")) (.promo (.comp [2] (.nm 2) (.seq (.var 0)) (.con (.bl true)) (.ite (.cmp .ge (.var 2) (.bin .pow (.con (.int 10)) (.con (.int 18)))) (.var 2) (.con (.int 0)))))) (.cons (.ret (.var 1)) .nil)))
def f_begun : Fn := ⟨1, 3, b_begun⟩
theorem put_left {ci li : Nat} {a : Int} {d : D} : dPut [(.inr "cells", .ref ci), (.inr "left", .ref li), (.inr "at", .int a)] (.inr "left") d = [(.inr "cells", .ref ci), (.inr "left", d), (.inr "at", .int a)] := by rfl
theorem begun_ok (hT : T "_law_folded" = some f_folded) (hB : T "_law_begun" = some f_begun) {ns : List Int} (hn : ns.length ≤ 63) :
    evX X (run T G (n + 2) "_law_begun" [scriptD ns] []) fun r h' => r = .dat (.ref 2) ∧ h'.length = 4 ∧ Dr h' 2 0 3 0 := by
  refine v_run hB rfl ?_
  unfold f_begun b_begun
  simp only [Fn.env, List.map_cons, List.map_nil, Nat.reduceSub, List.replicate_succ, List.replicate_zero, List.cons_append, List.nil_append]
  repeat walk_at "mi"
  refine ev_mono (folded_ok hT) ?_
  rintro r h1 ⟨rfl, cs, rfl, hc⟩
  repeat walk_at "mi"
  have fact : ∀ d ∈ ns.map D.int, compF (run T G (n + 1)) G [2] (.nm 2) (.con (.bl true)) (.ite (.cmp .ge (.var 2) (.bin .pow (.con (.int 10)) (.con (.int 18)))) (.var 2) (.con (.int 0)))
      [.val (scriptD ns), .val (.ref 2), .un] d [.lst (cs.map .int), .lst [], .dct [(.inr "cells", .ref 0), (.inr "left", .ref 1), (.inr "at", .int 0)]] =
      .ok (some ((fun d => match d with | .int i => .int (if 10 ^ 18 ≤ i then i else 0) | d => d) d)) [.lst (cs.map .int), .lst [], .dct [(.inr "cells", .ref 0), (.inr "left", .ref 1), (.inr "at", .int 0)]] := by
    intro d hd
    obtain ⟨x, _, rfl⟩ := List.mem_map.mp hd
    refine ev_eq ?_
    show evX _ (compG _ _ _ _ _ _) _
    repeat walk_at "mi"
    refine ev_br (fun hx => ?_) (fun hx => ?_)
    · repeat walk_at "mi"
      have hx := of_decide_eq_true hx
      refine ⟨?_, rfl⟩
      show _ = some (D.int (if 10 ^ 18 ≤ x then x else 0))
      exact congrArg (fun z => some (D.int z)) (if_pos hx).symm
    · repeat walk_at "mi"
      have hx := of_decide_eq_false hx
      refine ⟨?_, rfl⟩
      show _ = some (D.int (if 10 ^ 18 ≤ x then x else 0))
      exact congrArg (fun z => some (D.int z)) (if_neg hx).symm
  simp only [List.nil_append, List.cons_append, List.length_nil, List.length_cons, Nat.zero_add, Nat.reduceAdd, List.zip_cons_cons, List.zip_nil_left]
  refine w_of (a := ns.map .int) rfl ?_
  refine ev_of (comp_map _ (by rw [List.length_nil, Nat.zero_add, List.length_map]; exact Nat.le_trans hn (by decide)) fact) ?_
  rw [List.nil_append]
  have e1 : (ns.map D.int).map (fun d => match d with | .int i => .int (if 10 ^ 18 ≤ i then i else 0) | d => d) = (ns.map fun i => if 10 ^ 18 ≤ i then i else 0).map D.int := by
    simp
  rw [e1]
  repeat walk_at "mi"
  simp only [List.nil_append, List.cons_append, List.length_nil, List.length_cons, Nat.zero_add, Nat.reduceAdd, List.zip_cons_cons, List.zip_nil_left]
  refine v_setDR (l := [(.inr "cells", .ref 0), (.inr "left", .ref 1), (.inr "at", .int 0)]) rfl rfl (show 3 < sizeLine by decide) ?_
  rw [put_left]
  repeat walk_at "mi"
  refine ⟨rfl, rfl, ⟨cs, ns.map fun i => if 10 ^ 18 ≤ i then i else 0, 0, rfl, rfl, hc.1, hc.2, rfl, ?_, by omega, by omega⟩, by decide, by decide, by decide⟩
  intro x hx
  obtain ⟨y, _, rfl⟩ := List.mem_map.mp hx
  split <;> omega
end
end Mi
/-! Mi13: texts; the small looks at numbers and names. -/
namespace Mi
open PySem PySem.Spec PyProof.Rows L2
variable {X : Exc → Hh → Prop}
/-! ### texts -/
/-- a plain text of at most k signs -/
def Wd (k : Nat) (s : Str) : Prop := s.length ≤ k ∧ ∀ c ∈ s.cps.toList, c < 0x110000
def wdB (k : Nat) (s : Str) : Bool := decide (s.length ≤ k) && s.cps.toList.all fun c => decide (c < 0x110000)
theorem Wd.of {k : Nat} {s : Str} (h : wdB k s = true) : Wd k s := by
  unfold wdB at h
  simp only [Bool.and_eq_true, decide_eq_true_eq, List.all_eq_true] at h
  exact h
theorem Wd.le {k j : Nat} {s : Str} (h : Wd k s) (hk : k ≤ j) : Wd j s := ⟨Nat.le_trans h.1 hk, h.2⟩
theorem Wd.ok {k : Nat} {s : Str} (h : Wd k s) : PyData.strOk s = true := by
  unfold PyData.strOk
  rw [Array.all_eq_true']
  intro c hc
  simpa using h.2 c (by simpa using hc)
theorem Wd.app {k j : Nat} {x y : Str} (a : Wd k x) (b : Wd j y) : Wd (k + j) (x ++ y) := by
  refine ⟨by rw [PySem.Str.length_append]; exact Nat.add_le_add a.1 b.1, fun c hc => ?_⟩
  rw [PySem.Str.cps_append, Array.toList_append, List.mem_append] at hc
  exact hc.elim (a.2 c) (b.2 c)
theorem Wd.cut {k : Nat} {x : Str} (a : Wd k x) (lo hi : Option Int) : Wd k (cutS x lo hi) := by
  have sub : (cutS x lo hi).cps.toList.Sublist x.cps.toList := by
    unfold cutS
    show (List.take _ (List.drop _ _)).Sublist _
    exact (List.take_sublist _ _).trans (List.drop_sublist _ _)
  refine ⟨?_, fun c hc => a.2 c (sub.subset hc)⟩
  have := sub.length_le
  have e1 : (cutS x lo hi).cps.toList.length = (cutS x lo hi).length := by simp [Str.length]
  have e2 : x.cps.toList.length = x.length := by simp [Str.length]
  have := a.1
  omega
theorem Wd.one {k c : Nat} {x : Str} (a : Wd k x) (h : c ∈ x.cps.toList) : Wd 1 ⟨#[c]⟩ := ⟨Nat.le_refl _, fun d hd => by
  have : d = c := by simpa using hd
  rw [this]; exact a.2 c h⟩
theorem Wd.join {k : Nat} {sep : Str} (hs : Wd 0 sep) : ∀ {ys : List Str}, (∀ y ∈ ys, Wd k y) → Wd (ys.length * k) (Str.join sep ys)
  | [], _ => by refine ⟨Nat.zero_le _, fun c hc => ?_⟩; simp [Str.join, Str.empty] at hc
  | [x], h => by
    have := h x List.mem_cons_self
    simpa [Str.join] using this
  | x :: y :: ys, h => by
    have h1 := h x List.mem_cons_self
    have h2 := Wd.join (k := k) (ys := y :: ys) hs fun z hz => h z (List.mem_cons_of_mem _ hz)
    have := (h1.app hs).app h2
    refine this.le ?_
    simp only [List.length_cons, Nat.add_mul]
    omega
theorem txt_join {sep : Str} {ys : List Str} : Txt.join sep ys = Str.join sep ys := PySem.StrLaws.glued_eq_join sep ys
theorem w_addS {x y : Str} {a b : Nat} {h : Hh} {Q : R → Hh → Prop} (ha : Wd a x) (hb : Wd b y) (hz : a + b ≤ sizeLine) (p : Wd (a + b) (x ++ y) → Q (.dat (.str (x ++ y))) h) : evX X (Res.of h (binF h .add (.dat (.str x)) (.dat (.str y)))) Q := by
  have := ha.1
  have := hb.1
  refine w_of (a := .dat (.str (x ++ y))) ?_ (p (ha.app hb))
  show (if x.length + y.length ≤ sizeLine then _ else _) = _
  rw [if_pos (by omega)]
theorem w_slS {x : Str} {a : Nat} {lo hi : Option Int} {h : Hh} {Q : R → Hh → Prop} (ha : Wd a x) (hz : a ≤ sizeLine) (p : Wd a (cutS x lo hi) → Q (.dat (.str (cutS x lo hi))) h) : evX X (Res.of h (slF h lo hi (.dat (.str x)))) Q := by
  have := ha.1
  refine w_of (a := .dat (.str (cutS x lo hi))) ?_ (p (ha.cut lo hi))
  show (if x.length ≤ sizeLine then _ else _) = _
  rw [if_pos (by omega)]
theorem w_ixS {x : Str} {a : Nat} {i : Int} {h : Hh} {Q : R → Hh → Prop} (ha : Wd a x) (hz : a ≤ sizeLine) (h0 : 0 ≤ i) (h1 : i < x.length) (p : ∀ c ∈ x.cps.toList, Wd 1 ⟨#[c]⟩ → Q (.dat (.str ⟨#[c]⟩)) h) : evX X (ofR h (ixF h (.dat (.str x)) (.dat (.int i))) .dat) Q := by
  have := ha.1
  have hl : i.toNat < x.cps.toList.length := by simp only [Array.length_toList]; unfold Str.length at h1; omega
  have hm := List.getElem_mem hl
  refine w_ofR (a := .str ⟨#[x.cps.toList[i.toNat]]⟩) ?_ (p _ hm (ha.one hm))
  show (if x.length ≤ sizeLine then _ else _) = _
  rw [if_pos (by omega), atI_in h0 hl]
  rfl
theorem w_lenS {x : Str} {a : Nat} {h : Hh} {Q : R → Hh → Prop} (ha : Wd a x) (hz : a ≤ sizeLine) (p : Q (.dat (.int x.length)) h) : evX X (Res.of h (bltF h .len [.str x])) Q := by
  have := ha.1
  refine w_of (a := .dat (.int x.length)) ?_ p
  show (if x.length ≤ sizeLine then _ else _) = _
  rw [if_pos (by omega)]
/-! ### flat things in flat lists -/
theorem flats_strs : ∀ ws : List Str, flats (ws.map .str) = some (ws.map V.str)
  | [] => by simp [flats]
  | x :: xs => by simp [flats, D.flat, flats_strs xs]
theorem w_inS {x : Str} {ws : List Str} {y : R} {h : Hh} {Q : R → Hh → Prop} (e : sv h y = some (ws.map .str)) (hy : ∀ b, y ≠ .dat (.str b)) (p : Q (.dat (.bl (inV (.str x) (ws.map V.str)))) h) : evX X (ofR h (cmpF h .isin (.dat (.str x)) y) fun b => R.dat (.bl b)) Q := by
  refine w_ofR (a := inV (.str x) (ws.map V.str)) ?_ p
  show inF h (.dat (.str x)) y = _
  have e2 : (sv h y).bind flats = some (ws.map V.str) := by rw [e]; exact flats_strs ws
  cases y with
  | dat d =>
    cases d with
    | str b => exact absurd rfl (hy b)
    | _ => simp only [inF, D.flat, e2]
  | _ => simp only [inF, D.flat, e2]
theorem w_notinS {x : Str} {ws : List Str} {y : R} {h : Hh} {Q : R → Hh → Prop} (e : sv h y = some (ws.map .str)) (hy : ∀ b, y ≠ .dat (.str b)) (p : Q (.dat (.bl (!inV (.str x) (ws.map V.str)))) h) : evX X (ofR h (cmpF h .notin (.dat (.str x)) y) fun b => R.dat (.bl b)) Q := by
  have q : evX X (ofR h (cmpF h .isin (.dat (.str x)) y) fun b => R.dat (.bl b)) fun r g => r = .dat (.bl (inV (.str x) (ws.map V.str))) ∧ g = h := w_inS e hy ⟨rfl, rfl⟩
  refine w_ofR (a := !inV (.str x) (ws.map V.str)) ?_ p
  show (inF h (.dat (.str x)) y).map (!·) = _
  cases z : inF h (.dat (.str x)) y with
  | none =>
    have q' : evX X (ofR h (inF h (.dat (.str x)) y) fun b => R.dat (.bl b)) _ := q
    rw [z] at q'; exact q'.elim
  | some b =>
    have q' : evX X (ofR h (inF h (.dat (.str x)) y) fun b => R.dat (.bl b)) _ := q
    rw [z] at q'
    have : R.dat (.bl b) = .dat (.bl (inV (.str x) (ws.map V.str))) := q'.1
    cases this
    rfl
theorem w_in1 {c : Nat} {z : Str} {h : Hh} {Q : R → Hh → Prop} (p : Q (.dat (.bl (decide (c ∈ z.cps.toList)))) h) : evX X (ofR h (cmpF h .isin (.dat (.str ⟨#[c]⟩)) (.dat (.str z))) fun b => R.dat (.bl b)) Q := p
theorem w_notin1 {c : Nat} {z : Str} {h : Hh} {Q : R → Hh → Prop} (p : Q (.dat (.bl (!decide (c ∈ z.cps.toList)))) h) : evX X (ofR h (cmpF h .notin (.dat (.str ⟨#[c]⟩)) (.dat (.str z))) fun b => R.dat (.bl b)) Q := p
theorem boolsOf_map {α : Type} (f : α → Bool) : ∀ l : List α, boolsOf (l.map fun x => .bl (f x)) = some (l.map f)
  | [] => by simp [boolsOf]
  | x :: xs => by simp [boolsOf, boolsOf_map f xs]
theorem w_all {α : Type} {f : α → Bool} {l : List α} {h : Hh} {Q : R → Hh → Prop} (p : Q (.dat (.bl (l.all f))) h) : evX X (Res.of h (bltF h .all [.lst (l.map fun x => .bl (f x))])) Q := by
  refine w_of (a := .dat (.bl (l.all f))) ?_ p
  show (boolsOf _).map _ = _
  rw [boolsOf_map]
  simp [List.all_map]
/-- it can be looked at -/
def seen (h : Hh) : D → Bool
  | .arg _ => false
  | .sp _ _ _ => false
  | .ref n => h[n]?.isSome
  | _ => true
def isInt : D → Bool
  | .int _ => true
  | .bl _ => true
  | _ => false
def isBl : D → Bool
  | .bl _ => true
  | _ => false
def isStr : D → Bool
  | .str _ => true
  | _ => false
def isTup : D → Bool
  | .tup _ => true
  | _ => false
def whole : D → Bool
  | .int _ => true
  | _ => false
section
variable {h : Hh} {d : D} {Q : R → Hh → Prop}
theorem isi_int (s : seen h d = true) : isiF h .int d = some (isInt d) := by
  cases d <;> try rfl
  · cases s
  · rename_i n
    simp only [seen] at s
    simp only [isiF]
    cases e : h[n]? with
    | none => rw [e] at s; cases s
    | some o => cases o <;> rfl
  · cases s
theorem isi_bl (s : seen h d = true) : isiF h .bool d = some (isBl d) := by
  cases d <;> try rfl
  · cases s
  · rename_i n
    simp only [seen] at s
    simp only [isiF]
    cases e : h[n]? with
    | none => rw [e] at s; cases s
    | some o => cases o <;> rfl
  · cases s
theorem isi_str (s : seen h d = true) : isiF h .str d = some (isStr d) := by
  cases d <;> try rfl
  · cases s
  · rename_i n
    simp only [seen] at s
    simp only [isiF]
    cases e : h[n]? with
    | none => rw [e] at s; cases s
    | some o => cases o <;> rfl
  · cases s
theorem isi_tup (s : seen h d = true) : isiF h .tuple d = some (isTup d) := by
  cases d <;> try rfl
  · cases s
  · rename_i n
    simp only [seen] at s
    simp only [isiF]
    cases e : h[n]? with
    | none => rw [e] at s; cases s
    | some o => cases o <;> rfl
  · cases s
theorem w_isI (s : seen h d = true) (p : Q (.dat (.bl (isInt d))) h) : evX X (ofR h (isiF h .int d) fun b => R.dat (.bl b)) Q := w_ofR (isi_int s) p
theorem w_isB (s : seen h d = true) (p : Q (.dat (.bl (isBl d))) h) : evX X (ofR h (isiF h .bool d) fun b => R.dat (.bl b)) Q := w_ofR (isi_bl s) p
theorem w_isS (s : seen h d = true) (p : Q (.dat (.bl (isStr d))) h) : evX X (ofR h (isiF h .str d) fun b => R.dat (.bl b)) Q := w_ofR (isi_str s) p
theorem w_isT (s : seen h d = true) (p : Q (.dat (.bl (isTup d))) h) : evX X (ofR h (isiF h .tuple d) fun b => R.dat (.bl b)) Q := w_ofR (isi_tup s) p
end
local macro_rules | `(tactic| walk_at "mi") => `(tactic| first
  | with_reducible refine w_con ?_ | ((with_reducible refine' w_var ?e ?_); case e => rfl)
  | with_reducible refine w_bin ?_ | with_reducible refine w_fzD ?_ | with_reducible refine w_bind ?_ | with_reducible refine w_ok ?_
  | with_reducible refine w_addI ?_ | with_reducible refine w_subI ?_
  | with_reducible refine w_cons ?_ | with_reducible refine w_nil ?_ | with_reducible refine w_call ?_
  | with_reducible refine v_cons ?_ | ((with_reducible refine v_contN ?_); try simp only [setV, List.set_cons_succ, List.set_cons_zero]) | with_reducible refine v_contR ?_ | with_reducible refine v_asg ?_ | with_reducible refine v_ret ?_ | with_reducible refine v_retD ?_ | with_reducible refine v_endR ?_
  | with_reducible refine v_nil ?_ | with_reducible refine v_ifs ?_ | with_reducible refine w_brt ?_ | with_reducible refine w_brf ?_
  | with_reducible refine w_and ?_ | with_reducible refine w_or ?_ | with_reducible refine w_not ?_ | with_reducible refine w_notR ?_ | with_reducible refine w_ite ?_
  | with_reducible refine w_cmp ?_ | with_reducible refine w_chain ?_ | with_reducible refine w_ltI ?_ | with_reducible refine w_leI ?_ | with_reducible refine w_gtI ?_ | with_reducible refine w_geI ?_ | with_reducible refine w_eqI ?_
  | with_reducible refine w_isi ?_ | with_reducible refine w_blt ?_ | with_reducible refine w_ix ?_ | with_reducible refine w_dget ?_
  | ((with_reducible refine' w_modI ?e ?_); case e => (first | decide | omega))
  | ((with_reducible refine' w_fdivI ?e ?_); case e => (first | decide | omega))
  | ((with_reducible refine' w_mulI ?e ?_); case e => (first | exact near_r (by decide) | exact near_l (by decide) | exact near_ro (by omega) (by omega) | exact near_lo (by omega) (by omega)))
  | ((with_reducible refine' w_powI ?e ?_); case e => decide)
  | with_reducible refine w_neg ?_ | with_reducible refine w_negI ?_
  | with_reducible refine w_tup ?_ | with_reducible refine w_lst ?_ | ((with_reducible refine' w_lenR ?e ?_); case e => (first | decide | (simp only [List.length_cons, List.length_nil, Nat.zero_add, Nat.reduceAdd]; decide)))
  | with_reducible refine w_fzN ?_ | ((with_reducible refine' w_glo ?e ?_); case e => (first | assumption | rfl))
  | with_reducible refine w_sl ?_ | with_reducible refine w_ono ?_ | with_reducible refine w_opart ?_ | with_reducible refine w_intR ?_ | with_reducible refine w_strR ?_ | with_reducible refine w_tupR ?_ | with_reducible refine w_newR ?_ | ((with_reducible refine' w_optR ?e ?_); case e => rfl)
  | with_reducible refine w_mth ?_ | with_reducible refine w_comp ?_ | with_reducible refine w_seq ?_ | with_reducible refine w_rng1 ?_ | with_reducible refine w_rng2 ?_ | with_reducible refine w_rng3 ?_ | with_reducible refine w_enum ?_ | ((with_reducible refine' w_rng1R ?e ?_); case e => exact rng_ok1 (by omega) (by omega)) | ((with_reducible refine' w_rngR ?e ?_); case e => exact rng_ok2 (by omega) (by omega) (by omega) (by omega)) | ((with_reducible refine' w_rngD ?e ?_); case e => exact rng_ok2 (by omega) (by omega) (by omega) (by omega))
  | with_reducible refine w_promo ?_ | with_reducible refine w_proN ?_ | with_reducible refine w_proD ?_ | with_reducible refine w_dct ?_ | ((with_reducible refine' w_dctR ?e ?_); case e => decide)
  | with_reducible refine v_own ?_ | with_reducible refine v_any ?_ | with_reducible refine v_anyN ?_ | with_reducible refine v_anyD ?_ | with_reducible refine w_blt1 ?_ | with_reducible refine v_asgs ?_ | with_reducible refine v_setL ?_ | with_reducible refine v_setD ?_ | with_reducible refine v_setOwn ?_ | ((with_reducible refine' v_ownR ?e ?_); case e => rfl)
  | ((with_reducible refine' v_app ?e ?_); case e => rfl) | ((with_reducible refine' v_ext ?e ?_); case e => rfl) | with_reducible refine v_expr ?_ | with_reducible refine v_for ?_ | with_reducible refine v_whl ?_
  | ((with_reducible refine' v_retV ?e ?_); case e => rfl) | with_reducible refine v_retn ?_ | with_reducible refine v_pass ?_ | with_reducible refine v_brk ?_ | with_reducible refine v_cnt ?_ | ((with_reducible refine' v_frz ?e ?_); case e => rfl)
  | with_reducible refine v_contB ?_ | with_reducible refine v_contC ?_ | with_reducible refine v_retN ?_ | with_reducible refine v_endN ?_ | with_reducible refine w_compG ?_
  | ((with_reducible refine' w_varO ?e ?_); case e => rfl)
  | ((with_reducible refine' w_dgetK ?e ?q ?_); (case e => first | assumption | rfl); (case q => rfl); (try dsimp only)))

def f_is_whole : Fn := ⟨1, 1, (.cons (.ret (.and2 (.isi (.var 0) .int) (.not1 (.isi (.var 0) .bool)))) .nil)⟩
def f_is_among : Fn := ⟨3, 3, (.cons (.ret (.and2 (.call "is_whole" (.cons (.var 0) .nil)) (.chain .le .le (.var 1) (.var 0) (.var 2)))) .nil)⟩
def among (a b : Int) : D → Bool
  | .int i => decide (a ≤ i) && decide (i ≤ b)
  | _ => false
section
variable {T : Tab} {G : Str → Option D} {n : Nat} {h : Hh} {d : D}
theorem whole_ok (hT : T "is_whole" = some f_is_whole) (s : seen h d = true) : run T G (n + 1) "is_whole" [d] h = .ok (.dat (.bl (whole d))) h := by
  refine ev_eq (v_run hT rfl ?_)
  unfold f_is_whole
  simp only [Fn.env, List.map_cons, List.map_nil, Nat.reduceSub, List.replicate_succ, List.replicate_zero, List.cons_append, List.nil_append]
  repeat walk_at "mi"
  refine w_isI s (ev_br (fun h1 => ?_) (fun h1 => ?_))
  · repeat walk_at "mi"
    refine w_isB s ?_
    repeat walk_at "mi"
    refine ⟨?_, rfl⟩
    cases d <;> first | rfl | cases h1
  · repeat walk_at "mi"
    refine ⟨?_, rfl⟩
    cases d <;> first | rfl | cases h1
theorem among_ok (hT : T "is_whole" = some f_is_whole) (hA : T "is_among" = some f_is_among) {a b : Int} (s : seen h d = true) : run T G (n + 2) "is_among" [d, .int a, .int b] h = .ok (.dat (.bl (among a b d))) h := by
  refine ev_eq (v_run hA rfl ?_)
  unfold f_is_among
  simp only [Fn.env, List.map_cons, List.map_nil, Nat.reduceSub, List.replicate_succ, List.replicate_zero, List.cons_append, List.nil_append]
  repeat walk_at "mi"
  refine ev_of (whole_ok hT s) ?_
  cases d with
  | int i =>
    show evX _ (brR (.dat (.bl true)) _ _) _
    repeat walk_at "mi"
    refine ev_br (fun h1 => ?_) (fun h1 => ?_)
    · repeat walk_at "mi"
      exact ⟨by simp only [among, h1, Bool.true_and], rfl⟩
    · repeat walk_at "mi"
      exact ⟨by simp only [among, h1, Bool.false_and], rfl⟩
  | _ => exact ⟨rfl, rfl⟩
end
/-! ### is_name -/
def letters : Str := "abcdefghijklmnopqrstuvwxyz"
def barred : List Str := ["any", "is", "name", "both", "either", "not", "first", "row", "lot", "turned", "all", "use", "hole", "one", "stretch", "rest", "rule", "end"]
def f_is_name : Fn := ⟨1, 2, (.cons (.ifs (.or2 (.not1 (.isi (.var 0) .str)) (.or2 (.not1 (.chain .le .le (.con (.int 1)) (.blt .len (.cons (.var 0) .nil)) (.glo "MOST_LETTERS"))) (.cmp .isin (.var 0) (.glo "BARRED")))) (.cons (.ret (.con (.bl false))) .nil) .nil) (.cons (.ret (.blt .all (.cons (.comp [1] (.nm 1) (.seq (.var 0)) (.con (.bl true)) (.cmp .isin (.var 1) (.glo "LETTERS"))) .nil))) .nil))⟩
def signs (s : Str) : Bool := s.cps.toList.all fun c => decide (c ∈ letters.cps.toList)
def nameS (s : Str) : Bool := decide (1 ≤ (s.length : Int)) && decide ((s.length : Int) ≤ 6) && !inV (.str s) (barred.map V.str) && signs s
def nameD : D → Bool
  | .str s => nameS s
  | _ => false
section
variable {T : Tab} {G : Str → Option D} {n : Nat} {h : Hh} {d : D}
theorem name_ok (hT : T "is_name" = some f_is_name) (g1 : G "LETTERS" = some (.str letters)) (g2 : G "MOST_LETTERS" = some (.int 6)) (g3 : G "BARRED" = some (.tup (barred.map .str))) (s : seen h d = true) (hw : ∀ w, d = .str w → Wd 1000 w) :
    run T G (n + 1) "is_name" [d] h = .ok (.dat (.bl (nameD d))) h := by
  refine ev_eq (v_run hT rfl ?_)
  unfold f_is_name
  simp only [Fn.env, List.map_cons, List.map_nil, Nat.reduceSub, List.replicate_succ, List.replicate_zero, List.cons_append, List.nil_append]
  repeat walk_at "mi"
  refine w_isS s ?_
  by_cases hd : isStr d = true
  · cases d with
    | str w =>
      have wd := hw w rfl
      show evX _ (notR (.dat (.bl true)) _) _
      repeat walk_at "mi"
      simp only [Bool.not_true]
      repeat walk_at "mi"
      refine w_lenS wd (by decide) ?_
      repeat walk_at "mi"
      have bad : ∀ {b : Bool} {g : Hh}, nameS w = false → b = false → g = h → R.dat (.bl b) = .dat (.bl (nameD (.str w))) ∧ g = h := by
        rintro b g e rfl rfl
        exact ⟨by show _ = R.dat (.bl (nameS w)); rw [e], rfl⟩
      refine ev_br (fun h1 => ?_) (fun h1 => ?_)
      · repeat walk_at "mi"
        refine ev_br (fun h2 => ?_) (fun h2 => ?_)
        · repeat walk_at "mi"
          exact bad (by simp only [Bool.not_eq_true'] at h2; simp only [nameS, h2, Bool.and_false, Bool.false_and]) rfl rfl
        · repeat walk_at "mi"
          refine w_inS (ws := barred) rfl (fun _ z => by cases z) ?_
          repeat walk_at "mi"
          refine ev_br (fun h3 => ?_) (fun h3 => ?_)
          · repeat walk_at "mi"
            exact bad (by simp only [nameS, h3, Bool.not_true, Bool.and_false, Bool.false_and]) rfl rfl
          · repeat walk_at "mi"
            refine w_of (a := signsL w) rfl ?_
            have hlen : w.cps.toList.length ≤ 1000 := by simpa [Str.length] using wd.1
            have em : signsL w = w.cps.toList.map fun c => .str ⟨#[c]⟩ := rfl
            have fact : compR (run T G n) G [1] (.nm 1) (.con (.bl true)) (.cmp .isin (.var 1) (.glo "LETTERS")) [.val (.str w), .un] (signsL w) h = .ok (.new (w.cps.toList.map fun c => .bl (decide (c ∈ letters.cps.toList)))) h := by
              unfold compR
              rw [comp_map (fun d => match d with | .str s => .bl (s.cps.toList.all fun c => decide (c ∈ letters.cps.toList)) | d => d) (by rw [em, List.length_nil, Nat.zero_add, List.length_map]; exact Nat.le_trans hlen (by decide)) fun d hd => ?_]
              · rw [em, List.nil_append, List.map_map]
                simp
              · rw [em] at hd
                obtain ⟨c, _, rfl⟩ := List.mem_map.mp hd
                refine ev_eq ?_
                show evX _ (compG _ _ _ _ _ h) _
                repeat walk_at "mi"
                refine w_in1 ?_
                repeat walk_at "mi"
                exact ⟨by simp, rfl⟩
            refine ev_of fact ?_
            repeat walk_at "mi"
            refine w_all ?_
            repeat walk_at "mi"
            refine ⟨?_, rfl⟩
            simp only [Bool.not_eq_false'] at h2
            show _ = R.dat (.bl (nameS w))
            simp only [nameS, h1, h2, h3, Bool.not_false, Bool.true_and, signs]
      · repeat walk_at "mi"
        exact bad (by simp only [nameS, h1, Bool.false_and]) rfl rfl
    | _ => cases hd
  · have hd : isStr d = false := by simpa using hd
    rw [hd]
    repeat walk_at "mi"
    simp only [Bool.not_false]
    repeat walk_at "mi"
    refine ⟨?_, rfl⟩
    cases d <;> first | rfl | cases hd
end
end Mi
/-! Mi14: drawn words. -/
namespace Mi
open PySem PySem.Spec PyProof.Rows L2
variable {X : Exc → Hh → Prop}
theorem rngOk_of {j : Int} (h1 : -(2 ^ 62) ≤ j) (h2 : j < 2 ^ 62) : rngOk j = true := by
  unfold rngOk
  rw [decide_eq_true h1, decide_eq_true h2]; rfl
theorem strsOf_map : ∀ ws : List Str, strsOf (ws.map .str) = some ws
  | [] => by simp [strsOf]
  | x :: xs => by simp [strsOf, strsOf_map xs]
theorem sum_le {k : Nat} : ∀ {ws : List Str}, (∀ w ∈ ws, Wd k w) → (ws.map (·.length)).sum ≤ ws.length * k
  | [], _ => by simp
  | x :: xs, h => by
    have h1 := (h x List.mem_cons_self).1
    have h2 := sum_le (k := k) (ws := xs) fun w hw => h w (List.mem_cons_of_mem _ hw)
    simp only [List.map_cons, List.sum_cons, List.length_cons, Nat.add_mul]
    omega
theorem w_join {k : Nat} {ws : List Str} {h : Hh} {Q : R → Hh → Prop} (hw : ∀ w ∈ ws, Wd k w) (hz : ws.length * k ≤ 16777216) (p : Wd (ws.length * k) (Str.join "" ws) → Q (.dat (.str (Str.join "" ws))) h) : evX X (Res.of h (mthF .join "" [.lst (ws.map .str)])) Q := by
  refine w_of (a := .dat (.str (Str.join "" ws))) ?_ (p (Wd.join (Wd.of (by decide)) hw))
  show (match strsOf (ws.map .str) with
    | some (ys : List Str) => if (ys.map fun y : Str => y.length).sum + ys.length * ("" : Str).length ≤ 16777216 then some (R.dat (.str (Txt.join "" ys))) else none
    | none => none) = _
  rw [strsOf_map]
  have := sum_le hw
  have e0 : ("" : Str).length = 0 := by decide
  simp only
  rw [if_pos (by rw [e0]; omega), txt_join]
theorem w_ixN {h : Hh} {l : List D} {i : Int} {d : D} {Q : R → Hh → Prop} (q : atI l i = some d) (p : Q (.dat d) h) : evX X (ofR h (ixF h (.new l) (.dat (.int i))) .dat) Q := w_ofR (by exact q) p
theorem w_ixF {h : Hh} {l : List D} {i : Int} {d : D} {Q : R → Hh → Prop} (q : atI l i = some d) (p : Q (.dat d) h) : evX X (ofR h (ixF h (.dat (.lst l)) (.dat (.int i))) .dat) Q := w_ofR (by exact q) p
theorem w_addLN {a b : List D} {h : Hh} {Q : R → Hh → Prop} (z : a.length + b.length ≤ sizeLine) (p : Q (.new (a ++ b)) h) : evX X (Res.of h (binF h .add (.dat (.lst a)) (.new b))) Q := by
  refine w_of (a := .new (a ++ b)) ?_ p
  show (if a.length + b.length ≤ sizeLine then _ else _) = _
  rw [if_pos z]
theorem w_addLL {a b : List D} {h : Hh} {Q : R → Hh → Prop} (z : a.length + b.length ≤ sizeLine) (p : Q (.new (a ++ b)) h) : evX X (Res.of h (binF h .add (.dat (.lst a)) (.dat (.lst b)))) Q := by
  refine w_of (a := .new (a ++ b)) ?_ p
  show (if a.length + b.length ≤ sizeLine then _ else _) = _
  rw [if_pos z]
theorem w_addNN {a b : List D} {h : Hh} {Q : R → Hh → Prop} (z : a.length + b.length ≤ sizeLine) (p : Q (.new (a ++ b)) h) : evX X (Res.of h (binF h .add (.new a) (.new b))) Q := by
  refine w_of (a := .new (a ++ b)) ?_ p
  show (if a.length + b.length ≤ sizeLine then _ else _) = _
  rw [if_pos z]
local macro_rules | `(tactic| walk_at "mi") => `(tactic| first
  | with_reducible refine w_con ?_ | ((with_reducible refine' w_var ?e ?_); case e => rfl)
  | with_reducible refine w_bin ?_ | with_reducible refine w_fzD ?_ | with_reducible refine w_bind ?_ | with_reducible refine w_ok ?_
  | with_reducible refine w_addI ?_ | with_reducible refine w_subI ?_
  | with_reducible refine w_cons ?_ | with_reducible refine w_nil ?_ | with_reducible refine w_call ?_
  | with_reducible refine v_cons ?_ | ((with_reducible refine v_contN ?_); try simp only [setV, List.set_cons_succ, List.set_cons_zero]) | with_reducible refine v_contR ?_ | with_reducible refine v_asg ?_ | with_reducible refine v_ret ?_ | with_reducible refine v_retD ?_ | with_reducible refine v_endR ?_
  | with_reducible refine v_nil ?_ | with_reducible refine v_ifs ?_ | with_reducible refine w_brt ?_ | with_reducible refine w_brf ?_
  | with_reducible refine w_and ?_ | with_reducible refine w_or ?_ | with_reducible refine w_not ?_ | with_reducible refine w_notR ?_ | with_reducible refine w_ite ?_
  | with_reducible refine w_cmp ?_ | with_reducible refine w_chain ?_ | with_reducible refine w_ltI ?_ | with_reducible refine w_leI ?_ | with_reducible refine w_gtI ?_ | with_reducible refine w_geI ?_ | with_reducible refine w_eqI ?_
  | with_reducible refine w_isi ?_ | with_reducible refine w_blt ?_ | with_reducible refine w_ix ?_ | with_reducible refine w_dget ?_
  | ((with_reducible refine' w_modI ?e ?_); case e => (first | decide | omega))
  | ((with_reducible refine' w_fdivI ?e ?_); case e => (first | decide | omega))
  | ((with_reducible refine' w_mulI ?e ?_); case e => (first | exact near_r (by decide) | exact near_l (by decide) | exact near_ro (by omega) (by omega) | exact near_lo (by omega) (by omega)))
  | ((with_reducible refine' w_powI ?e ?_); case e => decide)
  | with_reducible refine w_neg ?_ | with_reducible refine w_negI ?_
  | with_reducible refine w_tup ?_ | with_reducible refine w_lst ?_ | ((with_reducible refine' w_lenR ?e ?_); case e => (first | decide | (simp only [List.length_cons, List.length_nil, Nat.zero_add, Nat.reduceAdd]; decide)))
  | with_reducible refine w_fzN ?_ | ((with_reducible refine' w_glo ?e ?_); case e => (first | assumption | rfl))
  | with_reducible refine w_sl ?_ | with_reducible refine w_ono ?_ | with_reducible refine w_opart ?_ | with_reducible refine w_intR ?_ | with_reducible refine w_strR ?_ | with_reducible refine w_tupR ?_ | with_reducible refine w_newR ?_ | ((with_reducible refine' w_optR ?e ?_); case e => rfl)
  | with_reducible refine w_mth ?_ | with_reducible refine w_comp ?_ | with_reducible refine w_seq ?_ | with_reducible refine w_rng1 ?_ | with_reducible refine w_rng2 ?_ | with_reducible refine w_rng3 ?_ | with_reducible refine w_enum ?_ | ((with_reducible refine' w_rng1R ?e ?_); case e => exact rng_ok1 (by omega) (by omega)) | ((with_reducible refine' w_rngR ?e ?_); case e => exact rng_ok2 (by omega) (by omega) (by omega) (by omega)) | ((with_reducible refine' w_rngD ?e ?_); case e => exact rng_ok2 (by omega) (by omega) (by omega) (by omega))
  | with_reducible refine w_promo ?_ | with_reducible refine w_proN ?_ | with_reducible refine w_proD ?_ | with_reducible refine w_dct ?_ | ((with_reducible refine' w_dctR ?e ?_); case e => decide)
  | with_reducible refine v_own ?_ | with_reducible refine v_any ?_ | with_reducible refine v_anyN ?_ | with_reducible refine v_anyD ?_ | with_reducible refine w_blt1 ?_ | with_reducible refine v_asgs ?_ | with_reducible refine v_setL ?_ | with_reducible refine v_setD ?_ | with_reducible refine v_setOwn ?_ | ((with_reducible refine' v_ownR ?e ?_); case e => rfl)
  | ((with_reducible refine' v_app ?e ?_); case e => rfl) | ((with_reducible refine' v_ext ?e ?_); case e => rfl) | with_reducible refine v_expr ?_ | with_reducible refine v_for ?_ | with_reducible refine v_whl ?_
  | ((with_reducible refine' v_retV ?e ?_); case e => rfl) | with_reducible refine v_retn ?_ | with_reducible refine v_pass ?_ | with_reducible refine v_brk ?_ | with_reducible refine v_cnt ?_ | ((with_reducible refine' v_frz ?e ?_); case e => rfl)
  | with_reducible refine v_contB ?_ | with_reducible refine v_contC ?_ | with_reducible refine v_retN ?_ | with_reducible refine v_endN ?_ | with_reducible refine w_compG ?_
  | ((with_reducible refine' w_varO ?e ?_); case e => rfl)
  | ((with_reducible refine' w_dgetK ?e ?q ?_); (case e => first | assumption | rfl); (case q => rfl); (try dsimp only)))

def f_words : Fn := ⟨2, 15, (.cons (.asg 2 (.con (.str "abcdefghijklmnopqrstuvwxyz"))) (.cons (.asgs [3, 4] (.tup (.cons (.call "_law_draw" (.cons (.var 0) (.cons (.con (.int 26)) .nil))) (.cons (.call "_law_draw" (.cons (.var 0) (.cons (.con (.int 4)) .nil))) .nil)))) (.cons (.asg 5 (.bin .add (.con (.int 1)) (.call "_law_draw" (.cons (.var 0) (.cons (.con (.int 6)) .nil))))) (.cons (.asg 6 (.call "_law_draw" (.cons (.var 0) (.cons (.var 5) .nil)))) (.cons (.asg 7 (.ix (.lst (.cons (.con (.int 1)) (.cons (.con (.int 3)) (.cons (.con (.int 7)) (.cons (.con (.int 11)) (.cons (.con (.int 17)) (.cons (.con (.int 25)) .nil))))))) (.call "_law_draw" (.cons (.var 0) (.cons (.con (.int 6)) .nil))))) (.cons (.asg 8 (.mth .join (.con (.str "")) (.cons (.comp [13] (.nm 13) (.rng1 (.con (.int 8))) (.con (.bl true)) (.ix (.var 2) (.bin .mod (.bin .add (.var 3) (.bin .mul (.con (.int 5)) (.var 13))) (.con (.int 26))))) .nil))) (.cons (.own 9 (.lst .nil)) (.cons (.for' (.nm 10) (.rng1 (.var 1)) (.cons (.asg 11 (.ix (.var 2) (.bin .mod (.bin .add (.var 3) (.bin .mul (.var 7) (.var 10))) (.con (.int 26))))) (.cons (.app 9 (.ite (.cmp .eq (.var 4) (.con (.int 3))) (.bin .add (.var 11) (.sl (.var 8) .no (.part (.bin .mod (.bin .mul (.var 10) (.var 7)) (.con (.int 6)))))) (.bin .add (.bin .add (.sl (.var 8) .no (.part (.var 6))) (.var 11)) (.sl (.var 8) (.part (.bin .add (.var 6) (.con (.int 1)))) (.part (.var 5)))))) .nil))) (.cons (.asg 12 (.lst (.cons (.con (.str "any")) (.cons (.con (.str "is")) (.cons (.con (.str "name")) (.cons (.con (.str "both")) (.cons (.con (.str "either")) (.cons (.con (.str "not")) (.cons (.con (.str "first")) (.cons (.con (.str "row")) (.cons (.con (.str "lot")) (.cons (.con (.str "turned")) (.cons (.con (.str "all")) (.cons (.con (.str "use")) (.cons (.con (.str "hole")) .nil))))))))))))))) (.cons (.asg 12 (.bin .add (.var 12) (.lst (.cons (.con (.str "one")) (.cons (.con (.str "stretch")) (.cons (.con (.str "rest")) (.cons (.con (.str "rule")) (.cons (.con (.str "end")) .nil)))))))) (.cons (.frz 9) (.cons (.ret (.comp [14] (.nm 14) (.seq (.var 9)) (.con (.bl true)) (.ite (.cmp .notin (.var 14) (.var 12)) (.var 14) (.bin .add (.bin .add (.con (.str "zz")) (.sl (.var 14) .no (.part (.con (.int 1))))) (.con (.str "z")))))) .nil))))))))))))⟩
section
variable {T : Tab} {G : Str → Option D} {n : Nat} {h : Hh}
theorem words_ok (hM : T "_law_mixed" = some f_mixed) (hD : T "_law_draw" = some f_draw) (hT : T "_law_words" = some f_words) {m ci li : Nat} {b many : Int} (d : Dr h m ci li b) (hb : b < 2 ^ 58) (hm : 0 ≤ many) (hm2 : many ≤ 1000) :
    evX X (run T G (n + 3) "_law_words" [.ref m, .int many] h) fun r h' => ∃ ws : List Str, r = .new (ws.map .str) ∧ ws.length = many.toNat ∧ (∀ w ∈ ws, Wd 40 w) ∧ Dr h' m ci li (b + 5) ∧ Kp m li h h' := by
  refine v_run hT rfl ?_
  unfold f_words
  simp only [Fn.env, List.map_cons, List.map_nil, Nat.reduceSub, List.replicate_succ, List.replicate_zero, List.cons_append, List.nil_append]
  have wl : Wd 26 letters := Wd.of (by decide +kernel)
  have ll : letters.length = 26 := by decide +kernel
  repeat walk_at "mi"
  refine ev_mono (draw_ok hM hD d (by omega) (by decide) (by decide)) ?_
  rintro r h1 ⟨start, rfl, st0, st1, d1, k1⟩
  repeat walk_at "mi"
  refine ev_mono (draw_ok hM hD d1 (by omega) (by decide) (by decide)) ?_
  rintro r h2 ⟨way, rfl, wy0, wy1, d2, k2⟩
  repeat walk_at "mi"
  refine ev_mono (draw_ok hM hD d2 (by omega) (by decide) (by decide)) ?_
  rintro r h3 ⟨siz, rfl, sz0, sz1, d3, k3⟩
  repeat walk_at "mi"
  refine ev_mono (draw_ok hM hD d3 (by omega) (by omega) (by omega)) ?_
  rintro r h4 ⟨pl, rfl, pl0, pl1, d4, k4⟩
  repeat walk_at "mi"
  refine ev_mono (draw_ok hM hD d4 (by omega) (by decide) (by decide)) ?_
  rintro r h5 ⟨si, rfl, si0, si1, d5, k5⟩
  repeat walk_at "mi"
  have hl : si.toNat < [D.int 1, .int 3, .int 7, .int 11, .int 17, .int 25].length := by show si.toNat < 6; omega
  refine w_ixN (atI_in si0 hl) ?_
  obtain ⟨stride, hs, hs0, hs1⟩ : ∃ x : Int, [D.int 1, .int 3, .int 7, .int 11, .int 17, .int 25][si.toNat] = .int x ∧ 0 < x ∧ x ≤ 25 := by
    have := List.getElem_mem hl
    simp only [List.mem_cons, List.not_mem_nil, or_false] at this
    rcases this with e | e | e | e | e | e <;> exact ⟨_, e, by decide, by decide⟩
  rw [hs]
  repeat walk_at "mi"
  refine ev_comp (fun i acc g => g = h5 ∧ ∃ ws : List Str, acc = ws.map .str ∧ ws.length = i ∧ ∀ w ∈ ws, Wd 1 w) ⟨rfl, [], rfl, rfl, fun _ z => by cases z⟩ (by decide +kernel) ?_ ?_
  · rintro i d acc g hd ⟨rfl, ws, rfl, e1, e2⟩
    obtain ⟨hi, rfl⟩ := rngL_get hd
    have hi : i < 8 := hi
    refine ⟨_, rfl, ?_⟩
    repeat walk_at "mi"
    refine w_ixS (x := letters) wl (by decide) (by omega) (by rw [ll]; omega) fun c _ wc => ?_
    repeat walk_at "mi"
    refine ⟨rfl, ws ++ [⟨#[c]⟩], by simp, by simp [e1], fun w hw => ?_⟩
    rcases List.mem_append.mp hw with hw | hw
    · exact e2 w hw
    · rw [List.mem_singleton.mp hw]; exact wc
  rintro acc g ⟨rfl, ws, rfl, e1, e2⟩
  repeat walk_at "mi"
  have e1 : ws.length = 8 := e1
  refine w_join e2 (by rw [e1]; decide) fun wb => ?_
  rw [e1] at wb
  generalize Str.join "" ws = base at wb
  repeat walk_at "mi"
  refine ev_for (fun i e g' => g' = g ∧ ∃ (ws : List Str) (s10 s11 : Slot), e = [.val (.ref m), .val (.int many), .val (.str "abcdefghijklmnopqrstuvwxyz"), .val (.int start), .val (.int way), .val (.int (1 + siz)), .val (.int pl), .val (.int stride), .val (.str base), .own (ws.map .str), s10, s11, .un, .un, .un] ∧ ws.length = i ∧ ∀ w ∈ ws, Wd 20 w) ⟨rfl, [], _, _, rfl, rfl, fun _ z => by cases z⟩ ?_ ?_
  · rintro i d e g' hd ⟨rfl, ws, s10, s11, rfl, e3, e4⟩
    obtain ⟨hi, rfl⟩ := rngL_get hd
    refine ⟨_, rfl, ?_⟩
    repeat walk_at "mi"
    refine w_ixS (x := letters) wl (by decide) (by omega) (by rw [ll]; omega) fun c _ wc => ?_
    repeat walk_at "mi"
    have fin : ∀ {w : Str}, Wd 17 w → w.length ≤ 17 → (ws ++ [w]).length = i + 1 ∧ ∀ w' ∈ ws ++ [w], Wd 20 w' := by
      intro w hw _
      refine ⟨by simp [e3], fun w' hw' => ?_⟩
      rcases List.mem_append.mp hw' with h' | h'
      · exact e4 w' h'
      · rw [List.mem_singleton.mp h']; exact hw.le (by decide)
    have es : ∀ w : Str, ws.map D.str ++ [.str w] = (ws ++ [w]).map D.str := by intro w; simp
    have hlen : (ws.map D.str).length < sizeLine := by rw [List.length_map, e3]; exact Nat.lt_of_lt_of_le (show i < 1000 by omega) (by decide)
    refine ev_br (fun hw => ?_) (fun hw => ?_)
    · repeat walk_at "mi"
      refine w_slS wb (by decide) fun w1 => ?_
      repeat walk_at "mi"
      refine w_addS wc w1 (by decide) fun w2 => ?_
      repeat walk_at "mi"
      refine v_appR hlen ?_
      rw [es]
      repeat walk_at "mi"
      exact ⟨rfl, _, _, _, rfl, (fin (w2.le (by decide)) (w2.le (j := 17) (by decide)).1).1, (fin (w2.le (by decide)) (w2.le (j := 17) (by decide)).1).2⟩
    · repeat walk_at "mi"
      refine w_slS wb (by decide) fun w1 => ?_
      repeat walk_at "mi"
      refine w_addS w1 wc (by decide) fun w2 => ?_
      repeat walk_at "mi"
      refine w_slS wb (by decide) fun w3 => ?_
      repeat walk_at "mi"
      refine w_addS w2 w3 (by decide) fun w4 => ?_
      repeat walk_at "mi"
      refine v_appR hlen ?_
      rw [es]
      repeat walk_at "mi"
      exact ⟨rfl, _, _, _, rfl, (fin (w4.le (by decide)) (w4.le (j := 17) (by decide)).1).1, (fin (w4.le (by decide)) (w4.le (j := 17) (by decide)).1).2⟩
  rintro e g' ⟨rfl, ws, s10, s11, rfl, e3, e4⟩
  rw [rngL_length] at e3
  repeat walk_at "mi"
  refine w_addLN (by decide) ?_
  repeat walk_at "mi"
  refine w_of (a := ws.map .str) rfl ?_
  have hl2 : ws.length ≤ 1000 := by omega
  refine ev_comp (fun i acc g => g = g' ∧ ∃ vs : List Str, acc = vs.map .str ∧ vs.length = i ∧ ∀ w ∈ vs, Wd 40 w) ⟨rfl, [], rfl, rfl, fun _ z => by cases z⟩ (by rw [List.length_nil, Nat.zero_add, List.length_map]; exact Nat.le_trans hl2 (by decide)) ?_ ?_
  · rintro i d acc g hd ⟨rfl, vs, rfl, e5, e6⟩
    rw [List.getElem?_map] at hd
    obtain ⟨w, hw, rfl⟩ := Option.map_eq_some_iff.mp hd
    have ww := e4 w (List.mem_of_getElem? hw)
    refine ⟨_, rfl, ?_⟩
    repeat walk_at "mi"
    have fin : ∀ {w : Str}, Wd 40 w → (vs ++ [w]).length = i + 1 ∧ ∀ w' ∈ vs ++ [w], Wd 40 w' := by
      intro w hw
      refine ⟨by simp [e5], fun w' hw' => ?_⟩
      rcases List.mem_append.mp hw' with h' | h'
      · exact e6 w' h'
      · rw [List.mem_singleton.mp h']; exact hw
    have es : ∀ w : Str, vs.map D.str ++ [.str w] = (vs ++ [w]).map D.str := by intro w; simp
    refine w_notinS (ws := barred) rfl (fun _ z => by cases z) ?_
    refine ev_br (fun hq => ?_) (fun hq => ?_)
    · repeat walk_at "mi"
      exact ⟨rfl, _, es _, (fin (ww.le (by decide))).1, (fin (ww.le (by decide))).2⟩
    · repeat walk_at "mi"
      refine w_slS ww (by decide) fun w1 => ?_
      repeat walk_at "mi"
      refine w_addS (a := 2) (Wd.of (by decide)) w1 (by decide) fun w2 => ?_
      repeat walk_at "mi"
      refine w_addS w2 (b := 1) (Wd.of (by decide)) (by decide) fun w3 => ?_
      repeat walk_at "mi"
      exact ⟨rfl, _, es _, (fin (w3.le (by decide))).1, (fin (w3.le (by decide))).2⟩
  rintro acc g ⟨rfl, vs, rfl, e5, e6⟩
  repeat walk_at "mi"
  refine ⟨vs, rfl, by rw [e5, List.length_map, e3], e6, d5.mono (by omega), ((((k1.trans k2).trans k3).trans k4).trans k5)⟩
end
end Mi
/-! Mi15: plain data: equality, tuples, places, parts. -/
namespace Mi
open PySem PySem.Spec PyProof.Rows L2
variable {X : Exc → Hh → Prop}
noncomputable instance decD : DecidableEq D := fun _ _ => Classical.propDecidable _
/-- a great number, never unfolded -/
@[irreducible] def big : Nat := 1000000
theorem big_eq : big = 1000000 := by unfold big; rfl
theorem le_big {a : Nat} (h : a < 1000000) : a ≤ big := by rw [big_eq]; omega
/-- plain data, at most so deep: no truths, no lists of the heap -/
def Pl : Nat → D → Prop
  | _, .non => True
  | _, .int _ => True
  | _, .str s => PyData.strOk s = true
  | k + 1, .tup l => ∀ x ∈ l, Pl k x
  | k + 1, .lst l => ∀ x ∈ l, Pl k x
  | _, _ => False
theorem Pl.non {k : Nat} : Pl k .non := by cases k <;> exact True.intro
theorem Pl.int {k : Nat} {i : Int} : Pl k (.int i) := by cases k <;> exact True.intro
theorem Pl.str {k : Nat} {s : Str} (h : PyData.strOk s = true) : Pl k (.str s) := by cases k <;> exact h
theorem Pl.tup {k : Nat} {l : List D} (h : ∀ x ∈ l, Pl k x) : Pl (k + 1) (.tup l) := h
theorem Pl.lst {k : Nat} {l : List D} (h : ∀ x ∈ l, Pl k x) : Pl (k + 1) (.lst l) := h
theorem Pl.le : ∀ {k j : Nat} {d : D}, Pl k d → k ≤ j → Pl j d
  | k, j, .non, _, _ => .non
  | k, j, .int _, _, _ => .int
  | 0, j, .str _, h, _ => .str h
  | k + 1, j, .str _, h, _ => .str h
  | 0, j, .tup l, h, _ => h.elim
  | 0, j, .lst l, h, _ => h.elim
  | k + 1, 0, .tup l, _, hj => absurd hj (by omega)
  | k + 1, 0, .lst l, _, hj => absurd hj (by omega)
  | k + 1, j + 1, .tup l, h, hj => Pl.tup fun x hx => Pl.le (h x hx) (by omega)
  | k + 1, j + 1, .lst l, h, hj => Pl.lst fun x hx => Pl.le (h x hx) (by omega)
  | 0, j, .bl _, h, _ => h.elim
  | k + 1, j, .bl _, h, _ => h.elim
  | 0, j, .arg _, h, _ => h.elim
  | k + 1, j, .arg _, h, _ => h.elim
  | 0, j, .ref _, h, _ => h.elim
  | 0, j, .sp _ _ _, h, _ => h.elim
  | k + 1, j, .ref _, h, _ => h.elim
  | k + 1, j, .sp _ _ _, h, _ => h.elim
theorem pyAll_pl {k : Nat} (ih : ∀ d, Pl k d → ∃ p, d.py = some p ∧ p.canLay0 = true ∧ p.depth ≤ k) : ∀ {l : List D}, (∀ x ∈ l, Pl k x) → ∃ ps, pyAll l = some ps ∧ PyData.canLayAll0 ps = true ∧ PyData.depthAll ps ≤ k
  | [], _ => ⟨[], by simp [pyAll], rfl, Nat.zero_le _⟩
  | x :: l, h => by
    obtain ⟨p, e1, c1, d1⟩ := ih x (h x List.mem_cons_self)
    obtain ⟨ps, e2, c2, d2⟩ := pyAll_pl ih (l := l) fun y hy => h y (List.mem_cons_of_mem _ hy)
    refine ⟨p :: ps, by simp only [pyAll, e1, e2], ?_, ?_⟩
    · simp only [PyData.canLayAll0, c1, c2, Bool.and_self]
    · simp only [PyData.depthAll]; omega
theorem py_pl : ∀ (k : Nat) (d : D), Pl k d → ∃ p, d.py = some p ∧ p.canLay0 = true ∧ p.depth ≤ k
  | k, .non, _ => ⟨.none, by simp [D.py], by simp [PyData.canLay0], by simp [PyData.depth]⟩
  | k, .int i, _ => ⟨.int i, by simp [D.py], by simp [PyData.canLay0], by simp [PyData.depth]⟩
  | k, .str s, h => by
    have h : PyData.strOk s = true := by cases k <;> exact h
    exact ⟨.str s, by simp [D.py], by simp [PyData.canLay0, h], by simp [PyData.depth]⟩
  | k + 1, .tup l, h => by
    obtain ⟨ps, e, c, d⟩ := pyAll_pl (py_pl k) h
    exact ⟨.tuple ps, by simp [D.py, e], by simpa [PyData.canLay0] using c, by simp only [PyData.depth]; omega⟩
  | k + 1, .lst l, h => by
    obtain ⟨ps, e, c, d⟩ := pyAll_pl (py_pl k) h
    exact ⟨.list ps, by simp [D.py, e], by simpa [PyData.canLay0] using c, by simp only [PyData.depth]; omega⟩
  | 0, .tup l, h => h.elim
  | 0, .lst l, h => h.elim
  | 0, .bl _, h => h.elim
  | k + 1, .bl _, h => h.elim
  | 0, .arg _, h => h.elim
  | k + 1, .arg _, h => h.elim
  | 0, .ref _, h => h.elim
  | 0, .sp _ _ _, h => h.elim
  | k + 1, .ref _, h => h.elim
  | k + 1, .sp _ _ _, h => h.elim
theorem eqvAll_pl {k : Nat} (ih : ∀ x y p q, Pl k x → Pl k y → x.py = some p → y.py = some q → PyData.eqv p q = decide (x = y)) :
    ∀ {l m : List D} {ps qs : List PyData}, (∀ x ∈ l, Pl k x) → (∀ x ∈ m, Pl k x) → pyAll l = some ps → pyAll m = some qs → PyData.eqvAll ps qs = decide (l = m)
  | [], [], ps, qs, _, _, e1, e2 => by simp [pyAll] at e1 e2; subst e1; subst e2; simp [PyData.eqvAll]
  | [], y :: m, ps, qs, _, hm, e1, e2 => by
    simp only [pyAll] at e1 e2
    cases a1 : y.py <;> cases a2 : pyAll m <;> simp [a1, a2] at e2
    simp at e1; subst e1; subst e2; simp [PyData.eqvAll]
  | x :: l, [], ps, qs, hl, _, e1, e2 => by
    simp only [pyAll] at e1 e2
    cases a1 : x.py <;> cases a2 : pyAll l <;> simp [a1, a2] at e1
    simp at e2; subst e1; subst e2; simp [PyData.eqvAll]
  | x :: l, y :: m, ps, qs, hl, hm, e1, e2 => by
    simp only [pyAll] at e1 e2
    cases a1 : x.py <;> cases a2 : pyAll l <;> simp [a1, a2] at e1
    cases b1 : y.py <;> cases b2 : pyAll m <;> simp [b1, b2] at e2
    subst e1; subst e2
    rw [PyData.eqvAll, ih x y _ _ (hl x List.mem_cons_self) (hm y List.mem_cons_self) a1 b1,
      eqvAll_pl ih (fun z hz => hl z (List.mem_cons_of_mem _ hz)) (fun z hz => hm z (List.mem_cons_of_mem _ hz)) a2 b2]
    by_cases h1 : x = y <;> by_cases h2 : l = m <;> simp [h1, h2]
theorem py_tup {l : List D} {p : PyData} (e : (D.tup l).py = some p) : ∃ ps, pyAll l = some ps ∧ p = .tuple ps := by
  simp only [D.py] at e
  cases a : pyAll l <;> simp [a] at e
  exact ⟨_, rfl, e.symm⟩
theorem py_lst {l : List D} {p : PyData} (e : (D.lst l).py = some p) : ∃ ps, pyAll l = some ps ∧ p = .list ps := by
  simp only [D.py] at e
  cases a : pyAll l <;> simp [a] at e
  exact ⟨_, rfl, e.symm⟩
theorem py_non {p : PyData} (e : D.non.py = some p) : p = .none := by simp only [D.py] at e; cases e; rfl
theorem py_int {i : Int} {p : PyData} (e : (D.int i).py = some p) : p = .int i := by simp only [D.py] at e; cases e; rfl
theorem py_str {i : Str} {p : PyData} (e : (D.str i).py = some p) : p = .str i := by simp only [D.py] at e; cases e; rfl
theorem eqv_pl : ∀ (k : Nat) (x y : D) (p q : PyData), Pl k x → Pl k y → x.py = some p → y.py = some q → PyData.eqv p q = decide (x = y) := by
  intro k
  induction k with
  | zero =>
    intro x y p q hx hy e1 e2
    cases x <;> cases y <;> first | exact hx.elim | exact hy.elim | skip
    all_goals
      first | rw [py_non e1] | rw [py_int e1] | rw [py_str e1]
      first | rw [py_non e2] | rw [py_int e2] | rw [py_str e2]
      simp [PyData.eqv]
      try rfl
  | succ k ih =>
    intro x y p q hx hy e1 e2
    cases x <;> cases y <;> first | exact hx.elim | exact hy.elim | skip
    all_goals
      first | rw [py_non e1] | rw [py_int e1] | rw [py_str e1] | (obtain ⟨ps, a1, rfl⟩ := py_tup e1) | (obtain ⟨ps, a1, rfl⟩ := py_lst e1)
      first | rw [py_non e2] | rw [py_int e2] | rw [py_str e2] | (obtain ⟨qs, a2, rfl⟩ := py_tup e2) | (obtain ⟨qs, a2, rfl⟩ := py_lst e2)
      first
        | (rw [PyData.eqv, eqvAll_pl ih hx hy (by assumption) (by assumption)]; simp)
        | (simp [PyData.eqv]; try rfl)
/-- an answer as data -/
def R.d : R → D
  | .dat d => d
  | .new l => .lst l
  | .bor l => .lst l
theorem pyH_d {h : Hh} {x : R} {k : Nat} (hx : Pl k x.d) : x.pyH h = x.d.py := by
  cases x with
  | dat d =>
    cases d with
    | ref n => cases k <;> exact hx.elim
    | _ => rfl
  | new l => simp only [R.pyH, R.py, R.d, D.py]
  | bor l => simp only [R.pyH, R.py, R.d, D.py]
theorem eqF_gen {h : Hh} {x y : R} (hx : Pl 60 x.d) (hy : Pl 60 y.d) : (match x.pyH h, y.pyH h with
    | some a, some b => if SeqAt.shaped a && SeqAt.shaped b then some (PyData.eqv a b) else none
    | _, _ => none) = some (decide (x.d = y.d)) := by
  obtain ⟨p, e1, c1, d1⟩ := py_pl 60 x.d hx
  obtain ⟨q, e2, c2, d2⟩ := py_pl 60 y.d hy
  rw [pyH_d hx, pyH_d hy, e1, e2]
  show (if (SeqAt.shaped p && SeqAt.shaped q) = true then some (PyData.eqv p q) else none) = _
  rw [if_pos (by simp only [SeqAt.shaped, c1, c2, Bool.true_and, Bool.and_eq_true, decide_eq_true_eq]; omega), eqv_pl 60 x.d y.d p q hx hy e1 e2]
theorem eqF_pl {h : Hh} {x y : R} (hx : Pl 60 x.d) (hy : Pl 60 y.d) : eqF h x y = some (decide (x.d = y.d)) := by
  unfold eqF
  split
  · rename_i a b
    simp [R.d]
  · exact eqF_gen hx hy
theorem eqF_str {h : Hh} {a b : Str} : eqF h (.dat (.str a)) (.dat (.str b)) = some (decide (a = b)) := rfl
theorem negN {k : Nat} : -(2 ^ 63) ≤ ((k : Nat) : Int) := Int.le_trans (by decide) (Int.natCast_nonneg k)
theorem mulTN {h : Hh} {a : List D} {k : Nat} (h1 : k ≤ 1000000) (z : a.length * k ≤ 1000000) : binF h .mul (.dat (.tup a)) (.dat (.int ((k : Nat) : Int))) = some (.dat (.tup (List.replicate k a).flatten)) := by
  have e : binF h .mul (.dat (.tup a)) (.dat (.int ((k : Nat) : Int))) = (if -(2 ^ 63) ≤ ((k : Nat) : Int) ∧ ((k : Nat) : Int) < 2 ^ 63 ∧ a.length * ((k : Nat) : Int).toNat ≤ 1000000 then some (.dat (.tup (List.replicate ((k : Nat) : Int).toNat a).flatten)) else none) := rfl
  rw [e]
  have e1 : ((k : Nat) : Int) < 2 ^ 63 := Int.lt_of_lt_of_le (Int.ofNat_lt.mpr (Nat.lt_succ_of_le h1)) (by decide)
  rw [Int.toNat_natCast, if_pos ⟨negN, e1, z⟩]
section
variable {h : Hh} {Q : R → Hh → Prop} {QL : List D → Hh → Prop}
theorem w_eqP {x y : R} (hx : Pl 60 x.d) (hy : Pl 60 y.d) (p : Q (.dat (.bl (decide (x.d = y.d)))) h) : evX X (ofR h (cmpF h .eq x y) fun b => R.dat (.bl b)) Q := w_ofR (eqF_pl hx hy) p
theorem w_neP {x y : R} (hx : Pl 60 x.d) (hy : Pl 60 y.d) (p : Q (.dat (.bl (!decide (x.d = y.d)))) h) : evX X (ofR h (cmpF h .ne x y) fun b => R.dat (.bl b)) Q := by
  refine w_ofR (a := !decide (x.d = y.d)) ?_ p
  show (eqF h x y).map (!·) = _
  rw [eqF_pl hx hy]; rfl
theorem w_eqS {a b : Str} (p : Q (.dat (.bl (decide (a = b)))) h) : evX X (ofR h (cmpF h .eq (.dat (.str a)) (.dat (.str b))) fun b => R.dat (.bl b)) Q := w_ofR (a := decide (a = b)) rfl p
theorem w_neSt {a b : Str} (p : Q (.dat (.bl (!decide (a = b)))) h) : evX X (ofR h (cmpF h .ne (.dat (.str a)) (.dat (.str b))) fun b => R.dat (.bl b)) Q := w_ofR (a := !decide (a = b)) rfl p
theorem w_neI {i j : Int} (p : Q (.dat (.bl (!decide (i = j)))) h) : evX X (ofR h (cmpF h .ne (.dat (.int i)) (.dat (.int j))) fun b => R.dat (.bl b)) Q := by
  refine w_neP (x := .dat (.int i)) (y := .dat (.int j)) .int .int ?_
  simpa [R.d] using p
/-! tuples -/
theorem w_addT {a b : List D} (z : a.length + b.length ≤ big) (p : Q (.dat (.tup (a ++ b))) h) : evX X (Res.of h (binF h .add (.dat (.tup a)) (.dat (.tup b)))) Q := by
  refine w_of (a := .dat (.tup (a ++ b))) ?_ p
  show (if a.length + b.length ≤ sizeLine then _ else _) = _
  rw [if_pos (by rw [sizeLine_eq]; rw [big_eq] at z; omega)]
theorem w_mulT {a : List D} {k : Int} (h1 : k < 2 ^ 63) (h2 : -(2 ^ 63) ≤ k) (z : a.length * k.toNat ≤ 1000000) (p : Q (.dat (.tup (List.replicate k.toNat a).flatten)) h) : evX X (Res.of h (binF h .mul (.dat (.tup a)) (.dat (.int k)))) Q := by
  refine w_of (a := .dat (.tup (List.replicate k.toNat a).flatten)) ?_ p
  show (if -(2 ^ 63) ≤ k ∧ k < 2 ^ 63 ∧ a.length * k.toNat ≤ 1000000 then _ else _) = _
  rw [if_pos ⟨h2, h1, z⟩]
theorem w_mulTN {a : List D} {k : Nat} (h1 : k ≤ big) (z : a.length * k ≤ big) (p : Q (.dat (.tup (List.replicate k a).flatten)) h) : evX X (Res.of h (binF h .mul (.dat (.tup a)) (.dat (.int ((k : Nat) : Int))))) Q := by
  rw [mulTN (by rw [← big_eq]; exact h1) (by rw [← big_eq]; exact z)]
  exact p
theorem w_lenT {l : List D} (p : Q (.dat (.int l.length)) h) : evX X (Res.of h (bltF h .len [.tup l])) Q := w_of rfl p
theorem w_lenLs {l : List D} (p : Q (.dat (.int l.length)) h) : evX X (Res.of h (bltF h .len [.lst l])) Q := w_of rfl p
theorem w_ixT {l : List D} {i : Int} {d : D} (e : atI l i = some d) (p : Q (.dat d) h) : evX X (ofR h (ixF h (.dat (.tup l)) (.dat (.int i))) .dat) Q := w_ofR e p
theorem w_slT {l : List D} {lo hi : Option Int} (p : Q (.dat (.tup (cutD l lo hi))) h) : evX X (Res.of h (slF h lo hi (.dat (.tup l)))) Q := w_of rfl p
theorem w_slL {l : List D} {lo hi : Option Int} (p : Q (.new (cutD l lo hi)) h) : evX X (Res.of h (slF h lo hi (.dat (.lst l)))) Q := w_of rfl p
theorem w_tupN {l : List D} (p : Q (.dat (.tup l)) h) : evX X (Res.of h (bltF h .toTuple [.lst l])) Q := w_of rfl p
theorem w_seqT {l : List D} (p : QL l h) : evX X (Res.of h (itF (.dat (.tup l)))) QL := w_of rfl p
theorem w_seqL {l : List D} (p : QL l h) : evX X (Res.of h (itF (.dat (.lst l)))) QL := w_of rfl p
theorem w_seqN {l : List D} (p : QL l h) : evX X (Res.of h (itF (.new l))) QL := w_of rfl p
theorem w_isiC {t : Ty} {d : D} {b : Bool} (e : isiF h t d = some b) (p : Q (.dat (.bl b)) h) : evX X (ofR h (isiF h t d) fun b => R.dat (.bl b)) Q := w_ofR e p
theorem w_intB {b : Bool} (p : Q (.dat (.int (if b then 1 else 0))) h) : evX X (Res.of h (bltF h .toInt [.bl b])) Q := w_of rfl p
theorem w_intI {i : Int} (p : Q (.dat (.int i)) h) : evX X (Res.of h (bltF h .toInt [.int i])) Q := w_of rfl p
end
theorem cut_to {l : List D} {i : Int} (h : 0 ≤ i) : cutD l none (some i) = l.take i.toNat := by
  unfold cutD HT.sIx
  dsimp only
  simp only [List.drop_zero]
  rw [if_neg (by omega)]
  by_cases hi : i.toNat ≤ l.length
  · congr 1; simp only [Nat.sub_zero]; omega
  · rw [List.take_of_length_le (by omega), List.take_of_length_le (by omega)]
theorem cut_from {l : List D} {i : Int} (h : 0 ≤ i) : cutD l (some i) none = l.drop i.toNat := by
  unfold cutD HT.sIx
  dsimp only
  rw [if_neg (by omega)]
  by_cases hi : i.toNat ≤ l.length
  · rw [show min i.toNat l.length = i.toNat by omega]
    rw [List.take_of_length_le (by rw [List.length_drop]; omega)]
  · rw [show min i.toNat l.length = l.length by omega]
    rw [List.drop_of_length_le (by omega), List.drop_of_length_le (by omega)]; simp
theorem cut_toN {l : List D} {m : Nat} : cutD l none (some ((m : Nat) : Int)) = l.take m := by rw [cut_to (Int.natCast_nonneg m), Int.toNat_natCast]
theorem cut_fromN {l : List D} {m : Nat} : cutD l (some ((m : Nat) : Int)) none = l.drop m := by rw [cut_from (Int.natCast_nonneg m), Int.toNat_natCast]
theorem cut_mid {l : List D} {i j : Int} (h : 0 ≤ i) (hj : i ≤ j) : cutD l (some i) (some j) = (l.drop i.toNat).take (j.toNat - i.toNat) := by
  unfold cutD HT.sIx
  dsimp only
  rw [if_neg (by omega), if_neg (by omega)]
  by_cases hi : i.toNat ≤ l.length
  · rw [show min i.toNat l.length = i.toNat by omega]
    by_cases hj2 : j.toNat ≤ l.length
    · rw [show min j.toNat l.length = j.toNat by omega]
    · rw [List.take_of_length_le (by rw [List.length_drop]; omega), List.take_of_length_le (by rw [List.length_drop]; omega)]
  · rw [show min i.toNat l.length = l.length by omega]
    rw [List.drop_of_length_le (by omega), List.drop_of_length_le (by omega)]; simp
theorem cut_last {l : List D} : cutD l (some (-1)) none = l.drop (l.length - 1) := by
  unfold cutD HT.sIx
  dsimp only
  rw [if_pos (by omega)]
  rw [show ((-1 : Int) + (l.length : Nat)).toNat = l.length - 1 by omega]
  rw [List.take_of_length_le (by rw [List.length_drop]; omega)]
theorem cut_init {l : List D} : cutD l none (some (-1)) = l.dropLast := by
  unfold cutD HT.sIx
  dsimp only
  rw [if_pos (by omega)]
  rw [show ((-1 : Int) + (l.length : Nat)).toNat = l.length - 1 by omega]
  simp [List.dropLast_eq_take]
theorem atI_nat' {l : List D} {k : Nat} (h : k < l.length) : atI l (k : Int) = some l[k] := by
  have := atI_in (l := l) (i := (k : Int)) (by omega) (by simpa using h)
  simpa using this
theorem atI_last' {l : List D} (h : l ≠ []) : atI l (-1) = some (l.getLast h) := by
  have hl : 0 < l.length := List.length_pos_iff.mpr h
  have e : ixN l.length (-1) = some (l.length - 1) := by
    unfold ixN
    rw [if_neg (by omega), if_pos (by omega)]
    congr 1; omega
  unfold atI
  rw [e]
  show l[l.length - 1]? = _
  rw [List.getElem?_eq_getElem (by omega), List.getLast_eq_getElem]
section
variable {h : Hh} {Q : R → Hh → Prop}
theorem w_notT (p : Q (.dat (.bl false)) h) : evX X (notR (.dat (.bl true)) h) Q := p
theorem w_notF (p : Q (.dat (.bl true)) h) : evX X (notR (.dat (.bl false)) h) Q := p
theorem w_brd {α : Type} {c : Prop} [Decidable c] {a b : Res α} {QA : α → Hh → Prop} (e : c) (p : evX X a QA) : evX X (brR (.dat (.bl (decide c))) a b) QA := by rw [decide_eq_true e]; exact p
theorem w_brn {α : Type} {c : Prop} [Decidable c] {a b : Res α} {QA : α → Hh → Prop} (e : ¬ c) (p : evX X b QA) : evX X (brR (.dat (.bl (decide c))) a b) QA := by rw [decide_eq_false e]; exact p
theorem w_brp {α : Type} {c : Bool} {a b : Res α} {QA : α → Hh → Prop} (e : c = true) (p : evX X a QA) : evX X (brR (.dat (.bl c)) a b) QA := by rw [e]; exact p
theorem w_brq {α : Type} {c : Bool} {a b : Res α} {QA : α → Hh → Prop} (e : c = false) (p : evX X b QA) : evX X (brR (.dat (.bl c)) a b) QA := by rw [e]; exact p
theorem w_brnd {α : Type} {c : Prop} [Decidable c] {a b : Res α} {QA : α → Hh → Prop} (e : c) (p : evX X b QA) : evX X (brR (.dat (.bl (!decide c))) a b) QA := by rw [decide_eq_true e]; exact p
theorem w_brnn {α : Type} {c : Prop} [Decidable c] {a b : Res α} {QA : α → Hh → Prop} (e : ¬ c) (p : evX X a QA) : evX X (brR (.dat (.bl (!decide c))) a b) QA := by rw [decide_eq_false e]; exact p
theorem w_isi_int_non (p : Q (.dat (.bl false)) h) : evX X (ofR h (isiF h .int (.non)) fun b => R.dat (.bl b)) Q := w_ofR (a := false) rfl p
theorem w_isi_int_bl {b : Bool} (p : Q (.dat (.bl true)) h) : evX X (ofR h (isiF h .int (.bl b)) fun b => R.dat (.bl b)) Q := w_ofR (a := true) rfl p
theorem w_isi_int_int {i : Int} (p : Q (.dat (.bl true)) h) : evX X (ofR h (isiF h .int (.int i)) fun b => R.dat (.bl b)) Q := w_ofR (a := true) rfl p
theorem w_isi_int_str {s : Str} (p : Q (.dat (.bl false)) h) : evX X (ofR h (isiF h .int (.str s)) fun b => R.dat (.bl b)) Q := w_ofR (a := false) rfl p
theorem w_isi_int_tup {l : List D} (p : Q (.dat (.bl false)) h) : evX X (ofR h (isiF h .int (.tup l)) fun b => R.dat (.bl b)) Q := w_ofR (a := false) rfl p
theorem w_isi_int_lst {l : List D} (p : Q (.dat (.bl false)) h) : evX X (ofR h (isiF h .int (.lst l)) fun b => R.dat (.bl b)) Q := w_ofR (a := false) rfl p
theorem w_isi_bool_non (p : Q (.dat (.bl false)) h) : evX X (ofR h (isiF h .bool (.non)) fun b => R.dat (.bl b)) Q := w_ofR (a := false) rfl p
theorem w_isi_bool_bl {b : Bool} (p : Q (.dat (.bl true)) h) : evX X (ofR h (isiF h .bool (.bl b)) fun b => R.dat (.bl b)) Q := w_ofR (a := true) rfl p
theorem w_isi_bool_int {i : Int} (p : Q (.dat (.bl false)) h) : evX X (ofR h (isiF h .bool (.int i)) fun b => R.dat (.bl b)) Q := w_ofR (a := false) rfl p
theorem w_isi_bool_str {s : Str} (p : Q (.dat (.bl false)) h) : evX X (ofR h (isiF h .bool (.str s)) fun b => R.dat (.bl b)) Q := w_ofR (a := false) rfl p
theorem w_isi_bool_tup {l : List D} (p : Q (.dat (.bl false)) h) : evX X (ofR h (isiF h .bool (.tup l)) fun b => R.dat (.bl b)) Q := w_ofR (a := false) rfl p
theorem w_isi_bool_lst {l : List D} (p : Q (.dat (.bl false)) h) : evX X (ofR h (isiF h .bool (.lst l)) fun b => R.dat (.bl b)) Q := w_ofR (a := false) rfl p
theorem w_isi_str_non (p : Q (.dat (.bl false)) h) : evX X (ofR h (isiF h .str (.non)) fun b => R.dat (.bl b)) Q := w_ofR (a := false) rfl p
theorem w_isi_str_bl {b : Bool} (p : Q (.dat (.bl false)) h) : evX X (ofR h (isiF h .str (.bl b)) fun b => R.dat (.bl b)) Q := w_ofR (a := false) rfl p
theorem w_isi_str_int {i : Int} (p : Q (.dat (.bl false)) h) : evX X (ofR h (isiF h .str (.int i)) fun b => R.dat (.bl b)) Q := w_ofR (a := false) rfl p
theorem w_isi_str_str {s : Str} (p : Q (.dat (.bl true)) h) : evX X (ofR h (isiF h .str (.str s)) fun b => R.dat (.bl b)) Q := w_ofR (a := true) rfl p
theorem w_isi_str_tup {l : List D} (p : Q (.dat (.bl false)) h) : evX X (ofR h (isiF h .str (.tup l)) fun b => R.dat (.bl b)) Q := w_ofR (a := false) rfl p
theorem w_isi_str_lst {l : List D} (p : Q (.dat (.bl false)) h) : evX X (ofR h (isiF h .str (.lst l)) fun b => R.dat (.bl b)) Q := w_ofR (a := false) rfl p
theorem w_isi_tuple_non (p : Q (.dat (.bl false)) h) : evX X (ofR h (isiF h .tuple (.non)) fun b => R.dat (.bl b)) Q := w_ofR (a := false) rfl p
theorem w_isi_tuple_bl {b : Bool} (p : Q (.dat (.bl false)) h) : evX X (ofR h (isiF h .tuple (.bl b)) fun b => R.dat (.bl b)) Q := w_ofR (a := false) rfl p
theorem w_isi_tuple_int {i : Int} (p : Q (.dat (.bl false)) h) : evX X (ofR h (isiF h .tuple (.int i)) fun b => R.dat (.bl b)) Q := w_ofR (a := false) rfl p
theorem w_isi_tuple_str {s : Str} (p : Q (.dat (.bl false)) h) : evX X (ofR h (isiF h .tuple (.str s)) fun b => R.dat (.bl b)) Q := w_ofR (a := false) rfl p
theorem w_isi_tuple_tup {l : List D} (p : Q (.dat (.bl true)) h) : evX X (ofR h (isiF h .tuple (.tup l)) fun b => R.dat (.bl b)) Q := w_ofR (a := true) rfl p
theorem w_isi_tuple_lst {l : List D} (p : Q (.dat (.bl false)) h) : evX X (ofR h (isiF h .tuple (.lst l)) fun b => R.dat (.bl b)) Q := w_ofR (a := false) rfl p
theorem w_isi_list_non (p : Q (.dat (.bl false)) h) : evX X (ofR h (isiF h .list (.non)) fun b => R.dat (.bl b)) Q := w_ofR (a := false) rfl p
theorem w_isi_list_bl {b : Bool} (p : Q (.dat (.bl false)) h) : evX X (ofR h (isiF h .list (.bl b)) fun b => R.dat (.bl b)) Q := w_ofR (a := false) rfl p
theorem w_isi_list_int {i : Int} (p : Q (.dat (.bl false)) h) : evX X (ofR h (isiF h .list (.int i)) fun b => R.dat (.bl b)) Q := w_ofR (a := false) rfl p
theorem w_isi_list_str {s : Str} (p : Q (.dat (.bl false)) h) : evX X (ofR h (isiF h .list (.str s)) fun b => R.dat (.bl b)) Q := w_ofR (a := false) rfl p
theorem w_isi_list_tup {l : List D} (p : Q (.dat (.bl false)) h) : evX X (ofR h (isiF h .list (.tup l)) fun b => R.dat (.bl b)) Q := w_ofR (a := false) rfl p
theorem w_isi_list_lst {l : List D} (p : Q (.dat (.bl true)) h) : evX X (ofR h (isiF h .list (.lst l)) fun b => R.dat (.bl b)) Q := w_ofR (a := true) rfl p
end
end Mi
/-! Mi16: endless rows, plain: a stem and a round; the lean one is the only one of its things. -/
namespace Mi
section
open Classical
variable {α : Type}
/-- a round's things, round and round -/
def cyc (a : List α) (i : Nat) : Option α := a[i % a.length]?
/-- the things of a stem and a round, one by one -/
def strm (s a : List α) (i : Nat) : Option α := if i < s.length then s[i]? else cyc a (i - s.length)
theorem cyc_lt {a : List α} {i : Nat} (h : i < a.length) : cyc a i = a[i]? := by unfold cyc; rw [Nat.mod_eq_of_lt h]
theorem cyc_add {a : List α} (i : Nat) : cyc a (i + a.length) = cyc a i := by unfold cyc; rw [Nat.add_mod_right]
theorem cyc_addm {a : List α} (i k : Nat) : cyc a (i + k * a.length) = cyc a i := by unfold cyc; rw [Nat.add_mul_mod_self_right]
theorem cyc_mod {a : List α} (i : Nat) : cyc a (i % a.length) = cyc a i := by unfold cyc; rw [Nat.mod_mod]
/-- a shorter round, told over, is the round -/
def hasP (a : List α) (m : Nat) : Prop := 0 < m ∧ m < a.length ∧ a.length % m = 0 ∧ (List.replicate (a.length / m) (a.take m)).flatten = a
def prim (a : List α) : Prop := ∀ m, ¬ hasP a m
theorem get_rep {b : List α} (hb : 0 < b.length) : ∀ (k i : Nat), i < k * b.length → (List.replicate k b).flatten[i]? = b[i % b.length]?
  | 0, i, h => by simp at h
  | k + 1, i, h => by
    rw [List.replicate_succ, List.flatten_cons]
    by_cases hi : i < b.length
    · rw [List.getElem?_append_left hi, Nat.mod_eq_of_lt hi]
    · rw [List.getElem?_append_right (by omega), get_rep hb k (i - b.length) (by rw [Nat.add_mul, Nat.one_mul] at h; omega), ← Nat.mod_eq_sub_mod (by omega)]
theorem rep_len {b : List α} (k : Nat) : (List.replicate k b).flatten.length = k * b.length := by
  induction k with
  | zero => simp
  | succ k ih => rw [List.replicate_succ, List.flatten_cons, List.length_append, ih, Nat.succ_mul]; omega
theorem hasP_cyc {a : List α} {m : Nat} (h : hasP a m) (i : Nat) : cyc (a.take m) i = cyc a i := by
  obtain ⟨h0, h1, h2, h3⟩ := h
  have hl : (a.take m).length = m := by rw [List.length_take]; omega
  have hd : a.length / m * m = a.length := Nat.div_mul_cancel (Nat.dvd_of_mod_eq_zero h2)
  have e : cyc a i = (a.take m)[(i % a.length) % m]? := by
    unfold cyc
    conv => lhs; rw [← h3]
    rw [show (List.replicate (a.length / m) (a.take m)).flatten.length = a.length by rw [rep_len, hl, hd]]
    rw [get_rep (by omega) _ _ (by rw [hl, hd]; exact Nat.mod_lt _ (by omega)), hl]
  rw [e]
  unfold cyc
  rw [hl, Nat.mod_mod_of_dvd _ (Nat.dvd_of_mod_eq_zero h2)]
theorem hasP_iff {a : List α} {m : Nat} : hasP a m ↔ 0 < m ∧ m < a.length ∧ m ∣ a.length ∧ ∀ i, cyc a (i + m) = cyc a i := by
  constructor
  · intro h
    refine ⟨h.1, h.2.1, Nat.dvd_of_mod_eq_zero h.2.2.1, fun i => ?_⟩
    have hl : (a.take m).length = m := by rw [List.length_take]; have := h.2.1; omega
    rw [← hasP_cyc h, ← hasP_cyc h]
    have := cyc_add (a := a.take m) i
    rwa [hl] at this
  · rintro ⟨h0, h1, h2, h3⟩
    refine ⟨h0, h1, Nat.mod_eq_zero_of_dvd h2, ?_⟩
    have hl : (a.take m).length = m := by rw [List.length_take]; omega
    have hd : a.length / m * m = a.length := Nat.div_mul_cancel h2
    have back : ∀ k i, cyc a (i + k * m) = cyc a i := by
      intro k
      induction k with
      | zero => intro i; simp
      | succ k ih => intro i; rw [Nat.succ_mul, ← Nat.add_assoc, h3, ih]
    refine List.ext_getElem? fun i => ?_
    by_cases hi : i < a.length
    · rw [get_rep (by omega) _ _ (by rw [hl, hd]; exact hi), hl, List.getElem?_take_of_lt (Nat.mod_lt _ h0), ← cyc_lt hi, ← cyc_lt (Nat.lt_trans (Nat.mod_lt i h0) h1)]
      conv => rhs; rw [← Nat.mod_add_div i m, Nat.mul_comm]
      rw [back]
    · rw [List.getElem?_eq_none (by rw [rep_len, hl, hd]; omega), List.getElem?_eq_none (by omega)]
/-- numbers by which things come again -/
theorem per_gcd {x : Nat → Option α} {N : Nat} : ∀ (p q : Nat), (∀ i, N ≤ i → x (i + p) = x i) → (∀ i, N ≤ i → x (i + q) = x i) → ∀ i, N ≤ i → x (i + Nat.gcd p q) = x i := by
  intro p q
  refine Nat.gcd.induction (P := fun p q => (∀ i, N ≤ i → x (i + p) = x i) → (∀ i, N ≤ i → x (i + q) = x i) → ∀ i, N ≤ i → x (i + Nat.gcd p q) = x i) p q ?_ ?_
  · intro n _ h i hi
    rw [Nat.gcd_zero_left]; exact h i hi
  · intro m n hm ih hp hq i hi
    rw [Nat.gcd_rec]
    refine ih (fun i hi => ?_) hp i hi
    have many : ∀ k i, N ≤ i → x (i + k * m) = x i := by
      intro k
      induction k with
      | zero => intro i _; simp
      | succ k ih => intro i hi; rw [Nat.succ_mul, ← Nat.add_assoc, hp _ (by omega), ih i hi]
    have e : i + n % m + n / m * m = i + n := by have := Nat.mod_add_div n m; rw [Nat.mul_comm] at this; omega
    rw [← many (n / m) (i + n % m) (by omega), e, hq i hi]
def isLean (s a : List α) : Prop := a ≠ [] ∧ prim a ∧ (s = [] ∨ s.getLast? ≠ a.getLast?)
theorem strm_ge {s a : List α} {i : Nat} (h : s.length ≤ i) : strm s a i = cyc a (i - s.length) := by unfold strm; rw [if_neg (by omega)]
theorem strm_lt {s a : List α} {i : Nat} (h : i < s.length) : strm s a i = s[i]? := by unfold strm; rw [if_pos h]
theorem strm_per {s a : List α} (i : Nat) (h : s.length ≤ i) : strm s a (i + a.length) = strm s a i := by
  rw [strm_ge h, strm_ge (by omega), show i + a.length - s.length = i - s.length + a.length by omega, cyc_add]
theorem strm_perk {s a : List α} (k i : Nat) (h : s.length ≤ i) : strm s a (i + k * a.length) = strm s a i := by
  rw [strm_ge h, strm_ge (by omega), show i + k * a.length - s.length = i - s.length + k * a.length by omega, cyc_addm]
theorem lean_dvd {s a : List α} (h0 : a ≠ []) (h : prim a) {q N : Nat} (hq : 0 < q) (per : ∀ i, N ≤ i → strm s a (i + q) = strm s a i) : a.length ∣ q := by
  have hp : 0 < a.length := List.length_pos_iff.mpr h0
  have g1 := per_gcd (x := strm s a) (N := max N s.length) a.length q (fun i hi => strm_per i (by omega)) (fun i hi => per i (by omega))
  have g2 : ∀ i, s.length ≤ i → strm s a (i + Nat.gcd a.length q) = strm s a i := by
    intro i hi
    have hbig : max N s.length ≤ i + (max N s.length) * a.length := by
      have := Nat.mul_le_mul_left (max N s.length) hp
      omega
    have := g1 (i + (max N s.length) * a.length) hbig
    rw [show i + (max N s.length) * a.length + Nat.gcd a.length q = i + Nat.gcd a.length q + (max N s.length) * a.length by omega, strm_perk _ _ (by omega), strm_perk _ _ hi] at this
    exact this
  have hg : 0 < Nat.gcd a.length q := Nat.gcd_pos_of_pos_left _ hp
  have hd : Nat.gcd a.length q ∣ a.length := Nat.gcd_dvd_left _ _
  by_cases hlt : Nat.gcd a.length q < a.length
  · exact absurd (hasP_iff.mpr ⟨hg, hlt, hd, fun i => by
      have := g2 (i + s.length) (by omega)
      rw [strm_ge (by omega), strm_ge (by omega)] at this
      rw [show i + s.length + Nat.gcd a.length q - s.length = i + Nat.gcd a.length q by omega, show i + s.length - s.length = i by omega] at this
      exact this⟩) (h _)
  · have : Nat.gcd a.length q = a.length := Nat.le_antisymm (Nat.le_of_dvd hp hd) (by omega)
    rw [← this]; exact Nat.gcd_dvd_right _ _
theorem lean_stem {s a s' a' : List α} (h : isLean s a) (h' : isLean s' a') (e : strm s a = strm s' a') (ep : a.length = a'.length) : s'.length ≤ s.length := by
  obtain ⟨h0, h1, h2⟩ := h
  obtain ⟨h0', h1', h2'⟩ := h'
  have hp : 0 < a.length := List.length_pos_iff.mpr h0
  refine Nat.le_of_not_lt fun hlt => ?_
  rcases h2' with rfl | h2'
  · simp at hlt
  · have q := strm_per (s := s) (a := a) (s'.length - 1) (by omega)
    rw [e, strm_lt (by omega : s'.length - 1 < s'.length), strm_ge (by omega : s'.length ≤ s'.length - 1 + a.length), ep, show s'.length - 1 + a'.length - s'.length = a'.length - 1 by omega, cyc_lt (by omega)] at q
    exact h2' (by rw [List.getLast?_eq_getElem?, List.getLast?_eq_getElem?]; exact q.symm)
theorem lean_uniq {s a s' a' : List α} (h : isLean s a) (h' : isLean s' a') (e : strm s a = strm s' a') : s = s' ∧ a = a' := by
  have p0 : 0 < a.length := List.length_pos_iff.mpr h.1
  have p0' : 0 < a'.length := List.length_pos_iff.mpr h'.1
  have d1 := lean_dvd (s := s) h.1 h.2.1 (q := a'.length) (N := s'.length) p0' (fun i hi => by rw [e]; exact strm_per i hi)
  have d2 := lean_dvd (s := s') h'.1 h'.2.1 (q := a.length) (N := s.length) p0 (fun i hi => by rw [← e]; exact strm_per i hi)
  have ep : a.length = a'.length := Nat.dvd_antisymm d1 d2
  have es : s.length = s'.length := Nat.le_antisymm (lean_stem h' h e.symm ep.symm) (lean_stem h h' e ep)
  constructor
  · refine List.ext_getElem? fun i => ?_
    by_cases hi : i < s.length
    · rw [← strm_lt (a := a) hi, e, strm_lt (by omega)]
    · rw [List.getElem?_eq_none (by omega), List.getElem?_eq_none (by omega)]
  · refine List.ext_getElem? fun i => ?_
    by_cases hi : i < a.length
    · have := congrFun e (i + s.length)
      rw [strm_ge (by omega), strm_ge (by omega), show i + s.length - s.length = i by omega, show i + s.length - s'.length = i by omega, cyc_lt hi, cyc_lt (by omega)] at this
      exact this
    · rw [List.getElem?_eq_none (by omega), List.getElem?_eq_none (by omega)]
/-! ### the least round -/
noncomputable def leastR (a : List α) : List α := match (List.range a.length).find? (fun m => decide (hasP a m)) with
  | some m => a.take m
  | none => a
theorem leastR_cases (a : List α) : (∃ m, hasP a m ∧ (∀ j, j < m → ¬ hasP a j) ∧ leastR a = a.take m) ∨ ((∀ m, ¬ hasP a m) ∧ leastR a = a) := by
  unfold leastR
  cases e : (List.range a.length).find? (fun m => decide (hasP a m)) with
  | none =>
    refine .inr ⟨fun m hm => ?_, rfl⟩
    rw [List.find?_eq_none] at e
    exact e m (List.mem_range.mpr hm.2.1) (decide_eq_true hm)
  | some m =>
    refine .inl ⟨m, by simpa using List.find?_some e, fun j hj hp => ?_, rfl⟩
    rw [List.find?_range_eq_some] at e
    have := e.2.2 j hj
    simp [hp] at this
theorem leastR_ok {a : List α} (h : a ≠ []) : leastR a ≠ [] ∧ prim (leastR a) ∧ cyc (leastR a) = cyc a ∧ (leastR a).length ≤ a.length ∧ (∀ x ∈ leastR a, x ∈ a) := by
  rcases leastR_cases a with ⟨m, hm, least, e⟩ | ⟨no, e⟩
  · rw [e]
    have hl : (a.take m).length = m := by rw [List.length_take]; have := hm.2.1; omega
    refine ⟨fun z => ?_, fun j hj => ?_, funext (hasP_cyc hm), by rw [List.length_take]; omega, fun x hx => List.mem_of_mem_take hx⟩
    · have := congrArg List.length z
      rw [hl] at this
      have := hm.1
      simp at *; omega
    · have hj' := hasP_iff.mp hj
      rw [hl] at hj'
      refine least j hj'.2.1 (hasP_iff.mpr ⟨hj'.1, Nat.lt_trans hj'.2.1 hm.2.1, Nat.dvd_trans hj'.2.2.1 (hasP_iff.mp hm).2.2.1, fun i => ?_⟩)
      rw [← hasP_cyc hm, ← hasP_cyc hm]
      exact hj'.2.2.2 i
  · rw [e]
    exact ⟨h, no, rfl, Nat.le_refl _, fun _ hx => hx⟩
/-! ### turning a round back -/
def rotR (a : List α) : List α := a.drop (a.length - 1) ++ a.dropLast
theorem rotR_len {a : List α} : (rotR a).length = a.length := by unfold rotR; simp <;> omega
theorem rotR_cyc {a : List α} (h : a ≠ []) (i : Nat) : cyc (rotR a) (i + 1) = cyc a i := by
  have hp : 0 < a.length := List.length_pos_iff.mpr h
  unfold cyc
  rw [rotR_len]
  have hi := Nat.mod_lt i hp
  have hd : (a.drop (a.length - 1)).length = 1 := by rw [List.length_drop]; omega
  unfold rotR
  by_cases e : i % a.length + 1 = a.length
  · have : (i + 1) % a.length = 0 := by
      have q := Nat.div_add_mod i a.length
      have q2 : i + 1 = a.length * (i / a.length + 1) := by rw [Nat.mul_add]; omega
      rw [q2, Nat.mul_mod_right]
    rw [this, List.getElem?_append_left (by omega), List.getElem?_drop]
    congr 1 <;> omega
  · have : (i + 1) % a.length = i % a.length + 1 := by
      have q := Nat.div_add_mod i a.length
      have q2 : i + 1 = a.length * (i / a.length) + (i % a.length + 1) := by omega
      rw [q2, Nat.mul_add_mod, Nat.mod_eq_of_lt (by omega)]
    rw [this, List.getElem?_append_right (by omega), hd, List.getElem?_dropLast, if_pos (by omega)]
    congr 1
theorem rotR_ne {a : List α} (h : a ≠ []) : rotR a ≠ [] := fun z => h (List.eq_nil_of_length_eq_zero (by rw [← rotR_len, z]; rfl))
theorem rotR_prim {a : List α} (h : a ≠ []) (p : prim a) : prim (rotR a) := fun m hm => by
  have hm := hasP_iff.mp hm
  rw [rotR_len] at hm
  refine p m (hasP_iff.mpr ⟨hm.1, hm.2.1, hm.2.2.1, fun i => ?_⟩)
  rw [← rotR_cyc h, ← rotR_cyc h, show i + m + 1 = i + 1 + m by omega]
  exact hm.2.2.2 (i + 1)
theorem rotR_mem {a : List α} {x : α} (hx : x ∈ rotR a) : x ∈ a := by
  unfold rotR at hx
  rcases List.mem_append.mp hx with q | q
  · exact List.mem_of_mem_drop q
  · exact (List.dropLast_sublist _).subset q
theorem strm_back {s a : List α} (h : a ≠ []) (hs : s ≠ []) (e : s.getLast? = a.getLast?) : strm s.dropLast (rotR a) = strm s a := by
  have hp : 0 < s.length := List.length_pos_iff.mpr hs
  have hq : 0 < a.length := List.length_pos_iff.mpr h
  funext i
  unfold strm
  rw [List.length_dropLast]
  by_cases h1 : i < s.length - 1
  · rw [if_pos h1, if_pos (by omega), List.getElem?_dropLast, if_pos h1]
  · rw [if_neg h1]
    by_cases h2 : i < s.length
    · rw [if_pos h2]
      have : i = s.length - 1 := by omega
      subst this
      rw [Nat.sub_self]
      rw [← List.getLast?_eq_getElem?, e]
      have e0 : cyc (rotR a) 0 = cyc (rotR a) (a.length - 1 + 1) := by
        have := cyc_add (a := rotR a) 0
        rw [rotR_len] at this
        rw [← this]; congr 1 <;> omega
      rw [e0, rotR_cyc h, cyc_lt (by omega), List.getLast?_eq_getElem?]
    · rw [if_neg h2, show i - (s.length - 1) = i - s.length + 1 by omega, rotR_cyc h]
noncomputable def leanW (s a : List α) : List α × List α := if h : s ≠ [] ∧ s.getLast? = a.getLast? then leanW s.dropLast (rotR a) else (s, a)
  termination_by s.length
  decreasing_by have := List.length_pos_iff.mpr h.1; rw [List.length_dropLast]; omega
theorem leanW_ok : ∀ (n : Nat) {s a : List α}, s.length = n → a ≠ [] → prim a →
    isLean (leanW s a).1 (leanW s a).2 ∧ strm (leanW s a).1 (leanW s a).2 = strm s a ∧ (leanW s a).1.length ≤ s.length ∧ (leanW s a).2.length = a.length ∧ (∀ x ∈ (leanW s a).1, x ∈ s) ∧ (∀ x ∈ (leanW s a).2, x ∈ a)
  | n, s, a, hn, h, hp => by
    unfold leanW
    by_cases q : s ≠ [] ∧ s.getLast? = a.getLast?
    · rw [dif_pos q]
      have hl : 0 < s.length := List.length_pos_iff.mpr q.1
      obtain ⟨i1, i2, i3, i4, i5, i6⟩ := leanW_ok (n - 1) (s := s.dropLast) (a := rotR a) (by rw [List.length_dropLast]; omega) (rotR_ne h) (rotR_prim h hp)
      refine ⟨i1, by rw [i2, strm_back h q.1 q.2], ?_, by rw [i4, rotR_len], fun x hx => (List.dropLast_sublist _).subset (i5 x hx), fun x hx => rotR_mem (i6 x hx)⟩
      rw [List.length_dropLast] at i3; omega
    · rw [dif_neg q]
      refine ⟨⟨h, hp, ?_⟩, rfl, Nat.le_refl _, rfl, fun _ hx => hx, fun _ hx => hx⟩
      by_cases hs : s = []
      · exact .inl hs
      · exact .inr fun z => q ⟨hs, z⟩
  termination_by n => n
  decreasing_by have := List.length_pos_iff.mpr q.1; omega
noncomputable def leaned (s a : List α) : List α × List α := leanW s (leastR a)
theorem strm_cyc {s a b : List α} (h : cyc a = cyc b) : strm s a = strm s b := by funext i; unfold strm; rw [h]
theorem leaned_ok {s a : List α} (h : a ≠ []) : isLean (leaned s a).1 (leaned s a).2 ∧ strm (leaned s a).1 (leaned s a).2 = strm s a ∧ (leaned s a).1.length ≤ s.length ∧ (leaned s a).2.length ≤ a.length ∧ (∀ x ∈ (leaned s a).1, x ∈ s) ∧ (∀ x ∈ (leaned s a).2, x ∈ a) := by
  obtain ⟨l1, l2, l3, l4, l5⟩ := leastR_ok h
  obtain ⟨i1, i2, i3, i4, i5, i6⟩ := leanW_ok s.length (s := s) rfl l1 l2
  exact ⟨i1, by rw [show leaned s a = leanW s (leastR a) from rfl, i2, strm_cyc l3], i3, by rw [show leaned s a = leanW s (leastR a) from rfl, i4]; exact l4, i5, fun x hx => l5 x (i6 x hx)⟩
theorem leaned_eq {s a s' a' : List α} (h : a ≠ []) (h' : a' ≠ []) (e : strm s a = strm s' a') : leaned s a = leaned s' a' := by
  have i := leaned_ok (s := s) h
  have j := leaned_ok (s := s') h'
  have := lean_uniq i.1 j.1 (by rw [i.2.1, j.2.1, e])
  exact Prod.ext this.1 this.2
theorem leaned_self {s a : List α} (h : isLean s a) : leaned s a = (s, a) := by
  have i := leaned_ok (s := s) h.1
  have := lean_uniq i.1 h i.2.1
  exact Prod.ext this.1 this.2
/-! ### things taken off -/
theorem strm_drop {s a : List α} {n : Nat} (h : n ≤ s.length) (i : Nat) : strm (s.drop n) a i = strm s a (n + i) := by
  unfold strm
  rw [List.length_drop]
  by_cases h1 : i < s.length - n
  · rw [if_pos h1, if_pos (by omega), List.getElem?_drop]
  · rw [if_neg h1, if_neg (by omega)]; congr 1 <;> omega
theorem cyc_rot {a : List α} {k : Nat} (h : k < a.length) (i : Nat) : cyc (a.drop k ++ a.take k) i = cyc a (k + i) := by
  unfold cyc
  have hl : (a.drop k ++ a.take k).length = a.length := by simp; omega
  rw [hl]
  have hi := Nat.mod_lt i (by omega : 0 < a.length)
  by_cases h1 : i % a.length < a.length - k
  · rw [List.getElem?_append_left (by rw [List.length_drop]; exact h1), List.getElem?_drop]
    have e : (k + i) % a.length = k + i % a.length := by
      rw [Nat.add_mod, Nat.mod_eq_of_lt h]; exact Nat.mod_eq_of_lt (by omega)
    rw [e]
  · rw [List.getElem?_append_right (by rw [List.length_drop]; omega), List.length_drop, List.getElem?_take_of_lt (by omega)]
    have e : (k + i) % a.length = k + i % a.length - a.length := by
      rw [Nat.add_mod, Nat.mod_eq_of_lt h, Nat.mod_eq_sub_mod (by omega)]; exact Nat.mod_eq_of_lt (by omega)
    rw [e]
    congr 1 <;> omega
theorem strm_past {s a : List α} {n : Nat} (h0 : 0 < a.length) (h : s.length ≤ n) (i : Nat) : strm [] (a.drop ((n - s.length) % a.length) ++ a.take ((n - s.length) % a.length)) i = strm s a (n + i) := by
  rw [strm_ge (by simp), strm_ge (by omega), cyc_rot (Nat.mod_lt _ h0)]
  show cyc a ((n - s.length) % a.length + (i - 0)) = _
  rw [← cyc_mod, Nat.add_mod, Nat.mod_mod, ← Nat.add_mod, cyc_mod]
  congr 1 <;> omega
theorem strm_app {t s a : List α} (i : Nat) : strm (t ++ s) a i = if i < t.length then t[i]? else strm s a (i - t.length) := by
  unfold strm
  rw [List.length_append]
  by_cases h1 : i < t.length
  · rw [if_pos h1, if_pos (by omega), List.getElem?_append_left h1]
  · rw [if_neg h1]
    by_cases h2 : i < t.length + s.length
    · rw [if_pos h2, if_pos (by omega), List.getElem?_append_right (by omega)]
    · rw [if_neg h2, if_neg (by omega)]; congr 1 <;> omega
end
end Mi
/-! Mi17: worths and endless rows looked at, taken apart. -/
namespace Mi
open PySem PySem.Spec PyProof.Rows L2
variable {X : Exc → Hh → Prop}
def fn_is_leaf : Fn := ⟨1, 1, (.cons (.ret (.call "is_among" (.cons (.var 0) (.cons (.con (.int 0)) (.cons (.glo "MOST_LEAF") .nil))))) .nil)⟩
def fn_size_within : Fn := ⟨2, 5, (.cons (.ifs (.call "is_leaf" (.cons (.var 0) .nil)) (.cons (.ret (.ite (.cmp .gt (.var 1) (.con (.int 0))) (.con (.int 1)) (.con (.int 0)))) .nil) .nil) (.cons (.ifs (.or2 (.cmp .eq (.var 1) (.con (.int 0))) (.or2 (.not1 (.isi (.var 0) .tuple)) (.cmp .gt (.blt .len (.cons (.var 0) .nil)) (.glo "MOST_THINGS")))) (.cons (.ret (.con (.int 0))) .nil) .nil) (.cons (.asg 2 (.con (.int 1))) (.cons (.for' (.nm 3) (.seq (.var 0)) (.cons (.asg 4 (.call "size_within" (.cons (.var 3) (.cons (.bin .sub (.var 1) (.con (.int 1))) .nil)))) (.cons (.asg 2 (.bin .add (.var 2) (.var 4))) (.cons (.ifs (.or2 (.cmp .eq (.var 4) (.con (.int 0))) (.cmp .gt (.var 2) (.glo "MOST_SIZE"))) (.cons (.ret (.con (.int 0))) .nil) .nil) .nil)))) (.cons (.ret (.var 2)) .nil)))))⟩
def fn_is_worth : Fn := ⟨1, 1, (.cons (.ret (.cmp .gt (.call "size_within" (.cons (.var 0) (.cons (.glo "MOST_DEEP") .nil))) (.con (.int 0)))) .nil)⟩
def fn_are_worths : Fn := ⟨3, 4, (.cons (.ifs (.or2 (.not1 (.isi (.var 0) .tuple)) (.not1 (.chain .le .le (.var 1) (.blt .len (.cons (.var 0) .nil)) (.var 2)))) (.cons (.ret (.con (.bl false))) .nil) .nil) (.cons (.ret (.blt .all (.cons (.comp [3] (.nm 3) (.seq (.var 0)) (.con (.bl true)) (.chain .le .le (.con (.int 1)) (.call "size_within" (.cons (.var 3) (.cons (.glo "MOST_DEEP") .nil))) (.glo "MOST_SMALL"))) .nil))) .nil))⟩
def fn_is_endless : Fn := ⟨1, 1, (.cons (.ifs (.or2 (.not1 (.isi (.var 0) .tuple)) (.or2 (.cmp .ne (.blt .len (.cons (.var 0) .nil)) (.con (.int 3))) (.or2 (.not1 (.isi (.ix (.var 0) (.con (.int 0))) .str)) (.cmp .ne (.ix (.var 0) (.con (.int 0))) (.glo "ENDLESS"))))) (.cons (.ret (.con (.bl false))) .nil) .nil) (.cons (.ret (.and2 (.call "are_worths" (.cons (.ix (.var 0) (.con (.int 1))) (.cons (.con (.int 0)) (.cons (.glo "MOST_STEM") .nil)))) (.call "are_worths" (.cons (.ix (.var 0) (.con (.int 2))) (.cons (.con (.int 1)) (.cons (.glo "MOST_THINGS") .nil)))))) .nil))⟩
def fn_is_thing : Fn := ⟨1, 1, (.cons (.ret (.or2 (.call "is_worth" (.cons (.var 0) .nil)) (.call "is_endless" (.cons (.var 0) .nil)))) .nil)⟩
local macro_rules | `(tactic| walk_at "run") => `(tactic| repeat (first
  | with_reducible refine w_notT ?_ | with_reducible refine w_notF ?_
  | with_reducible refine w_con ?_ | ((with_reducible refine' w_var ?e ?_); case e => rfl)
  | with_reducible refine w_bin ?_ | with_reducible refine w_fzD ?_ | with_reducible refine w_bind ?_ | with_reducible refine w_ok ?_
  | with_reducible refine w_addI ?_ | with_reducible refine w_subI ?_
  | with_reducible refine w_cons ?_ | with_reducible refine w_nil ?_ | with_reducible refine w_call ?_
  | with_reducible refine v_cons ?_ | ((with_reducible refine v_contN ?_); try simp only [setV, List.set_cons_succ, List.set_cons_zero]) | with_reducible refine v_contR ?_ | with_reducible refine v_asg ?_ | with_reducible refine v_ret ?_ | with_reducible refine v_retD ?_ | with_reducible refine v_endR ?_
  | with_reducible refine v_nil ?_ | with_reducible refine v_ifs ?_ | with_reducible refine w_brt ?_ | with_reducible refine w_brf ?_
  | with_reducible refine w_and ?_ | with_reducible refine w_or ?_ | with_reducible refine w_not ?_ | with_reducible refine w_notR ?_ | with_reducible refine w_ite ?_
  | with_reducible refine w_cmp ?_ | with_reducible refine w_chain ?_ | with_reducible refine w_ltI ?_ | with_reducible refine w_leI ?_ | with_reducible refine w_gtI ?_ | with_reducible refine w_geI ?_ | with_reducible refine w_eqI ?_
  | with_reducible refine w_isi ?_ | with_reducible refine w_blt ?_ | with_reducible refine w_ix ?_ | with_reducible refine w_dget ?_
  | ((with_reducible refine' w_modI ?e ?_); case e => (first | decide | omega))
  | ((with_reducible refine' w_fdivI ?e ?_); case e => (first | decide | omega))
  | ((with_reducible refine' w_mulI ?e ?_); case e => (first | exact near_r (by decide) | exact near_l (by decide) | exact near_ro (by omega) (by omega) | exact near_lo (by omega) (by omega)))
  | ((with_reducible refine' w_powI ?e ?_); case e => decide)
  | with_reducible refine w_neg ?_ | with_reducible refine w_negI ?_
  | with_reducible refine w_tup ?_ | with_reducible refine w_lst ?_ | ((with_reducible refine' w_lenR ?e ?_); case e => (first | decide | (simp only [List.length_cons, List.length_nil, Nat.zero_add, Nat.reduceAdd]; decide)))
  | with_reducible refine w_fzN ?_ | ((with_reducible refine' w_glo ?e ?_); case e => (first | assumption | rfl))
  | with_reducible refine w_sl ?_ | with_reducible refine w_ono ?_ | with_reducible refine w_opart ?_ | with_reducible refine w_intR ?_ | with_reducible refine w_strR ?_ | with_reducible refine w_tupR ?_ | with_reducible refine w_newR ?_ | ((with_reducible refine' w_optR ?e ?_); case e => rfl)
  | with_reducible refine w_mth ?_ | with_reducible refine w_comp ?_ | with_reducible refine w_seq ?_ | with_reducible refine w_rng1 ?_ | with_reducible refine w_rng2 ?_ | with_reducible refine w_rng3 ?_ | with_reducible refine w_enum ?_ | ((with_reducible refine' w_rng1R ?e ?_); case e => exact rng_ok1 (by omega) (by omega)) | ((with_reducible refine' w_rngR ?e ?_); case e => exact rng_ok2 (by omega) (by omega) (by omega) (by omega)) | ((with_reducible refine' w_rngD ?e ?_); case e => exact rng_ok2 (by omega) (by omega) (by omega) (by omega))
  | with_reducible refine w_promo ?_ | with_reducible refine w_proN ?_ | with_reducible refine w_proD ?_ | with_reducible refine w_dct ?_ | ((with_reducible refine' w_dctR ?e ?_); case e => decide)
  | with_reducible refine v_own ?_ | with_reducible refine v_any ?_ | with_reducible refine v_anyN ?_ | with_reducible refine v_anyD ?_ | with_reducible refine w_blt1 ?_ | with_reducible refine v_asgs ?_ | with_reducible refine v_setL ?_ | with_reducible refine v_setD ?_ | with_reducible refine v_setOwn ?_ | ((with_reducible refine' v_ownR ?e ?_); case e => rfl)
  | ((with_reducible refine' v_app ?e ?_); case e => rfl) | ((with_reducible refine' v_ext ?e ?_); case e => rfl) | with_reducible refine v_expr ?_ | with_reducible refine v_for ?_ | with_reducible refine v_whl ?_
  | ((with_reducible refine' v_retV ?e ?_); case e => rfl) | with_reducible refine v_retn ?_ | with_reducible refine v_pass ?_ | with_reducible refine v_brk ?_ | with_reducible refine v_cnt ?_ | ((with_reducible refine' v_frz ?e ?_); case e => rfl)
  | with_reducible refine v_contB ?_ | with_reducible refine v_contC ?_ | with_reducible refine v_retN ?_ | with_reducible refine v_endN ?_ | with_reducible refine w_compG ?_
  | ((with_reducible refine' w_varO ?e ?_); case e => rfl)
  | ((with_reducible refine' w_dgetK ?e ?q ?_); (case e => first | assumption | rfl); (case q => rfl); (try dsimp only))
  | with_reducible refine w_lenT ?_ | with_reducible refine w_lenLs ?_ | with_reducible refine w_slT ?_ | with_reducible refine w_slL ?_ | with_reducible refine w_tupN ?_ | with_reducible refine w_seqT ?_ | with_reducible refine w_seqL ?_ | with_reducible refine w_seqN ?_ | with_reducible refine w_intB ?_ | with_reducible refine w_intI ?_ | with_reducible refine w_neI ?_
  | with_reducible refine w_isi_int_non ?_ | with_reducible refine w_isi_int_bl ?_ | with_reducible refine w_isi_int_int ?_ | with_reducible refine w_isi_int_str ?_ | with_reducible refine w_isi_int_tup ?_ | with_reducible refine w_isi_int_lst ?_ | with_reducible refine w_isi_bool_non ?_ | with_reducible refine w_isi_bool_bl ?_ | with_reducible refine w_isi_bool_int ?_ | with_reducible refine w_isi_bool_str ?_ | with_reducible refine w_isi_bool_tup ?_ | with_reducible refine w_isi_bool_lst ?_ | with_reducible refine w_isi_str_non ?_ | with_reducible refine w_isi_str_bl ?_ | with_reducible refine w_isi_str_int ?_ | with_reducible refine w_isi_str_str ?_ | with_reducible refine w_isi_str_tup ?_ | with_reducible refine w_isi_str_lst ?_ | with_reducible refine w_isi_tuple_non ?_ | with_reducible refine w_isi_tuple_bl ?_ | with_reducible refine w_isi_tuple_int ?_ | with_reducible refine w_isi_tuple_str ?_ | with_reducible refine w_isi_tuple_tup ?_ | with_reducible refine w_isi_tuple_lst ?_ | with_reducible refine w_isi_list_non ?_ | with_reducible refine w_isi_list_bl ?_ | with_reducible refine w_isi_list_int ?_ | with_reducible refine w_isi_list_str ?_ | with_reducible refine w_isi_list_tup ?_ | with_reducible refine w_isi_list_lst ?_
  | with_reducible refine w_lrng1 ?_ | with_reducible refine w_lrng2 ?_ | ((with_reducible refine' w_lrngR ?e ?_); case e => (refine ⟨?_, ?_, ?_, ?_, ?_⟩ <;> omega)) | with_reducible refine w_lrngR2 ?_ | with_reducible refine w_max2 ?_ | with_reducible refine w_min2 ?_ | with_reducible refine w_zip ?_ | with_reducible refine w_zipT ?_ | with_reducible refine w_zipL ?_ | with_reducible refine w_zipLN ?_
  | with_reducible refine w_fnv ?_ | with_reducible refine w_isx ?_ | with_reducible refine w_attr ?_ | ((with_reducible refine' w_attrR ?e ?_); case e => rfl) | ((with_reducible refine' w_callv ?e ?_); case e => rfl) | with_reducible refine w_told ?_ | with_reducible refine v_raise ?_
  | ((with_reducible refine' w_ixT ?e ?_); case e => rfl)
  | ((with_reducible refine' w_brd ?e ?_); case e => omega)
  | ((with_reducible refine' w_brn ?e ?_); case e => omega)
  | ((with_reducible refine' w_brnd ?e ?_); case e => omega)
  | ((with_reducible refine' w_brnn ?e ?_); case e => omega)
  | ((with_reducible refine' w_brp ?e ?_); case e => assumption)
  | ((with_reducible refine' w_brq ?e ?_); case e => assumption)))
local macro_rules | `(tactic| walk_at "one") => `(tactic| (first
  | with_reducible refine w_notT ?_ | with_reducible refine w_notF ?_
  | with_reducible refine w_con ?_ | ((with_reducible refine' w_var ?e ?_); case e => rfl)
  | with_reducible refine w_bin ?_ | with_reducible refine w_fzD ?_ | with_reducible refine w_bind ?_ | with_reducible refine w_ok ?_
  | with_reducible refine w_addI ?_ | with_reducible refine w_subI ?_
  | with_reducible refine w_cons ?_ | with_reducible refine w_nil ?_ | with_reducible refine w_call ?_
  | with_reducible refine v_cons ?_ | ((with_reducible refine v_contN ?_); try simp only [setV, List.set_cons_succ, List.set_cons_zero]) | with_reducible refine v_contR ?_ | with_reducible refine v_asg ?_ | with_reducible refine v_ret ?_ | with_reducible refine v_retD ?_ | with_reducible refine v_endR ?_
  | with_reducible refine v_nil ?_ | with_reducible refine v_ifs ?_ | with_reducible refine w_brt ?_ | with_reducible refine w_brf ?_
  | with_reducible refine w_and ?_ | with_reducible refine w_or ?_ | with_reducible refine w_not ?_ | with_reducible refine w_notR ?_ | with_reducible refine w_ite ?_
  | with_reducible refine w_cmp ?_ | with_reducible refine w_chain ?_ | with_reducible refine w_ltI ?_ | with_reducible refine w_leI ?_ | with_reducible refine w_gtI ?_ | with_reducible refine w_geI ?_ | with_reducible refine w_eqI ?_
  | with_reducible refine w_isi ?_ | with_reducible refine w_blt ?_ | with_reducible refine w_ix ?_ | with_reducible refine w_dget ?_
  | ((with_reducible refine' w_modI ?e ?_); case e => (first | decide | omega))
  | ((with_reducible refine' w_fdivI ?e ?_); case e => (first | decide | omega))
  | ((with_reducible refine' w_mulI ?e ?_); case e => (first | exact near_r (by decide) | exact near_l (by decide) | exact near_ro (by omega) (by omega) | exact near_lo (by omega) (by omega)))
  | ((with_reducible refine' w_powI ?e ?_); case e => decide)
  | with_reducible refine w_neg ?_ | with_reducible refine w_negI ?_
  | with_reducible refine w_tup ?_ | with_reducible refine w_lst ?_ | ((with_reducible refine' w_lenR ?e ?_); case e => (first | decide | (simp only [List.length_cons, List.length_nil, Nat.zero_add, Nat.reduceAdd]; decide)))
  | with_reducible refine w_fzN ?_ | ((with_reducible refine' w_glo ?e ?_); case e => (first | assumption | rfl))
  | with_reducible refine w_sl ?_ | with_reducible refine w_ono ?_ | with_reducible refine w_opart ?_ | with_reducible refine w_intR ?_ | with_reducible refine w_strR ?_ | with_reducible refine w_tupR ?_ | with_reducible refine w_newR ?_ | ((with_reducible refine' w_optR ?e ?_); case e => rfl)
  | with_reducible refine w_mth ?_ | with_reducible refine w_comp ?_ | with_reducible refine w_seq ?_ | with_reducible refine w_rng1 ?_ | with_reducible refine w_rng2 ?_ | with_reducible refine w_rng3 ?_ | with_reducible refine w_enum ?_ | ((with_reducible refine' w_rng1R ?e ?_); case e => exact rng_ok1 (by omega) (by omega)) | ((with_reducible refine' w_rngR ?e ?_); case e => exact rng_ok2 (by omega) (by omega) (by omega) (by omega)) | ((with_reducible refine' w_rngD ?e ?_); case e => exact rng_ok2 (by omega) (by omega) (by omega) (by omega))
  | with_reducible refine w_promo ?_ | with_reducible refine w_proN ?_ | with_reducible refine w_proD ?_ | with_reducible refine w_dct ?_ | ((with_reducible refine' w_dctR ?e ?_); case e => decide)
  | with_reducible refine v_own ?_ | with_reducible refine v_any ?_ | with_reducible refine v_anyN ?_ | with_reducible refine v_anyD ?_ | with_reducible refine w_blt1 ?_ | with_reducible refine v_asgs ?_ | with_reducible refine v_setL ?_ | with_reducible refine v_setD ?_ | with_reducible refine v_setOwn ?_ | ((with_reducible refine' v_ownR ?e ?_); case e => rfl)
  | ((with_reducible refine' v_app ?e ?_); case e => rfl) | ((with_reducible refine' v_ext ?e ?_); case e => rfl) | with_reducible refine v_expr ?_ | with_reducible refine v_for ?_ | with_reducible refine v_whl ?_
  | ((with_reducible refine' v_retV ?e ?_); case e => rfl) | with_reducible refine v_retn ?_ | with_reducible refine v_pass ?_ | with_reducible refine v_brk ?_ | with_reducible refine v_cnt ?_ | ((with_reducible refine' v_frz ?e ?_); case e => rfl)
  | with_reducible refine v_contB ?_ | with_reducible refine v_contC ?_ | with_reducible refine v_retN ?_ | with_reducible refine v_endN ?_ | with_reducible refine w_compG ?_
  | ((with_reducible refine' w_varO ?e ?_); case e => rfl)
  | ((with_reducible refine' w_dgetK ?e ?q ?_); (case e => first | assumption | rfl); (case q => rfl); (try dsimp only))
  | with_reducible refine w_lenT ?_ | with_reducible refine w_lenLs ?_ | with_reducible refine w_slT ?_ | with_reducible refine w_slL ?_ | with_reducible refine w_tupN ?_ | with_reducible refine w_seqT ?_ | with_reducible refine w_seqL ?_ | with_reducible refine w_seqN ?_ | with_reducible refine w_intB ?_ | with_reducible refine w_intI ?_ | with_reducible refine w_neI ?_
  | with_reducible refine w_isi_int_non ?_ | with_reducible refine w_isi_int_bl ?_ | with_reducible refine w_isi_int_int ?_ | with_reducible refine w_isi_int_str ?_ | with_reducible refine w_isi_int_tup ?_ | with_reducible refine w_isi_int_lst ?_ | with_reducible refine w_isi_bool_non ?_ | with_reducible refine w_isi_bool_bl ?_ | with_reducible refine w_isi_bool_int ?_ | with_reducible refine w_isi_bool_str ?_ | with_reducible refine w_isi_bool_tup ?_ | with_reducible refine w_isi_bool_lst ?_ | with_reducible refine w_isi_str_non ?_ | with_reducible refine w_isi_str_bl ?_ | with_reducible refine w_isi_str_int ?_ | with_reducible refine w_isi_str_str ?_ | with_reducible refine w_isi_str_tup ?_ | with_reducible refine w_isi_str_lst ?_ | with_reducible refine w_isi_tuple_non ?_ | with_reducible refine w_isi_tuple_bl ?_ | with_reducible refine w_isi_tuple_int ?_ | with_reducible refine w_isi_tuple_str ?_ | with_reducible refine w_isi_tuple_tup ?_ | with_reducible refine w_isi_tuple_lst ?_ | with_reducible refine w_isi_list_non ?_ | with_reducible refine w_isi_list_bl ?_ | with_reducible refine w_isi_list_int ?_ | with_reducible refine w_isi_list_str ?_ | with_reducible refine w_isi_list_tup ?_ | with_reducible refine w_isi_list_lst ?_
  | with_reducible refine w_lrng1 ?_ | with_reducible refine w_lrng2 ?_ | ((with_reducible refine' w_lrngR ?e ?_); case e => (refine ⟨?_, ?_, ?_, ?_, ?_⟩ <;> omega)) | with_reducible refine w_lrngR2 ?_ | with_reducible refine w_max2 ?_ | with_reducible refine w_min2 ?_ | with_reducible refine w_zip ?_ | with_reducible refine w_zipT ?_ | with_reducible refine w_zipL ?_ | with_reducible refine w_zipLN ?_
  | with_reducible refine w_fnv ?_ | with_reducible refine w_isx ?_ | with_reducible refine w_attr ?_ | ((with_reducible refine' w_attrR ?e ?_); case e => rfl) | ((with_reducible refine' w_callv ?e ?_); case e => rfl) | with_reducible refine w_told ?_ | with_reducible refine v_raise ?_
  | ((with_reducible refine' w_ixT ?e ?_); case e => rfl)
  | ((with_reducible refine' w_brd ?e ?_); case e => omega)
  | ((with_reducible refine' w_brn ?e ?_); case e => omega)
  | ((with_reducible refine' w_brnd ?e ?_); case e => omega)
  | ((with_reducible refine' w_brnn ?e ?_); case e => omega)
  | ((with_reducible refine' w_brp ?e ?_); case e => assumption)
  | ((with_reducible refine' w_brq ?e ?_); case e => assumption)))

/-- it and its parts can be looked at, so deep -/
def Sn (h : Hh) : Nat → D → Prop
  | _, .str s => PyData.strOk s = true
  | k + 1, .tup l => ∀ x ∈ l, Sn h k x
  | _, d => seen h d = true
theorem Sn.seen {h : Hh} : ∀ {k : Nat} {d : D}, Sn h k d → seen h d = true
  | _, .str _, _ => rfl
  | 0, .tup _, _ => rfl
  | k + 1, .tup l, _ => rfl
  | _, .non, _ => rfl
  | _, .bl _, _ => rfl
  | _, .int _, _ => rfl
  | _, .lst _, _ => rfl
  | 0, .arg _, s => s
  | k + 1, .arg _, s => s
  | 0, .ref _, s => s
  | 0, .sp _ _ _, s => s
  | k + 1, .ref _, s => s
  | k + 1, .sp _ _ _, s => s
theorem Sn.str {h : Hh} {s : Str} : ∀ {k : Nat}, Sn h k (.str s) → PyData.strOk s = true
  | 0, s => s
  | k + 1, s => s
theorem Sn.down {h : Hh} : ∀ {k j : Nat} {d : D}, Sn h k d → j ≤ k → Sn h j d
  | k, 0, .str s, z, _ => z.str
  | k, j + 1, .str s, z, _ => z.str
  | k + 1, j + 1, .tup l, s, hj => fun x hx => Sn.down (s x hx) (by omega)
  | _, 0, .tup l, _, _ => rfl
  | _, 0, .non, _, _ => rfl
  | _, 0, .bl _, _, _ => rfl
  | _, 0, .int _, _, _ => rfl
  | _, 0, .lst _, _, _ => rfl
  | _, 0, .arg _, s, _ => s.seen
  | _, 0, .ref _, s, _ => s.seen
  | _, 0, .sp _ _ _, s, _ => s.seen
  | k + 1, j + 1, .non, _, _ => rfl
  | k + 1, j + 1, .bl _, _, _ => rfl
  | k + 1, j + 1, .int _, _, _ => rfl
  | k + 1, j + 1, .lst _, _, _ => rfl
  | k + 1, j + 1, .arg _, s, _ => s
  | k + 1, j + 1, .ref _, s, _ => s
  | k + 1, j + 1, .sp _ _ _, s, _ => s
theorem Pl.sok {k : Nat} {s : Str} (h : Pl k (.str s)) : PyData.strOk s = true := by cases k <;> exact h
theorem Sn.of_pl {h : Hh} : ∀ {k j : Nat} {d : D}, Pl j d → Sn h k d
  | 0, j, .str _, p => p.sok
  | k + 1, j, .str _, p => p.sok
  | 0, j, .tup _, p => rfl
  | k + 1, j + 1, .tup l, p => fun x hx => Sn.of_pl (p x hx)
  | k + 1, 0, .tup l, p => p.elim
  | 0, _, .non, _ => rfl
  | 0, _, .bl _, _ => rfl
  | 0, _, .int _, _ => rfl
  | 0, _, .lst _, _ => rfl
  | k + 1, _, .non, _ => rfl
  | k + 1, _, .bl _, _ => rfl
  | k + 1, _, .int _, _ => rfl
  | k + 1, _, .lst _, _ => rfl
  | 0, j, .arg _, p => by cases j <;> exact p.elim
  | 0, j, .ref _, p => by cases j <;> exact p.elim
  | 0, j, .sp _ _ _, p => by cases j <;> exact p.elim
  | k + 1, j, .arg _, p => by cases j <;> exact p.elim
  | k + 1, j, .ref _, p => by cases j <;> exact p.elim
  | k + 1, j, .sp _ _ _, p => by cases j <;> exact p.elim
def leafD : D → Bool := among 0 99
/-- how many leaves and rows, at most so deep -/
def sizeW : Nat → D → Nat
  | 0, _ => 0
  | k + 1, d => if leafD d then 1 else match d with
    | .tup l => if l.length ≤ 10 ∧ (∀ x ∈ l, 0 < sizeW k x) ∧ 1 + (l.map (sizeW k)).sum ≤ 60 then 1 + (l.map (sizeW k)).sum else 0
    | _ => 0
def worthD (d : D) : Bool := decide (0 < sizeW 6 d)
def smallD (d : D) : Bool := decide (1 ≤ sizeW 6 d) && decide (sizeW 6 d ≤ 5)
def smallsD (a b : Nat) : D → Bool
  | .tup l => decide (a ≤ l.length) && decide (l.length ≤ b) && l.all smallD
  | _ => false
def endlessD : D → Bool
  | .tup [.str s, x, y] => decide (s = "endless") && smallsD 0 60 x && smallsD 1 10 y
  | _ => false
def thingD (d : D) : Bool := worthD d || endlessD d
structure WT (T : Tab) (G : Str → Option D) : Prop where
  whole : T "is_whole" = some f_is_whole
  among : T "is_among" = some f_is_among
  leaf : T "is_leaf" = some fn_is_leaf
  size : T "size_within" = some fn_size_within
  worth : T "is_worth" = some fn_is_worth
  gLeaf : G "MOST_LEAF" = some (.int 99)
  gThings : G "MOST_THINGS" = some (.int 10)
  gSize : G "MOST_SIZE" = some (.int 60)
  gDeep : G "MOST_DEEP" = some (.int 6)
structure WT2 (T : Tab) (G : Str → Option D) : Prop extends WT T G where
  worths : T "are_worths" = some fn_are_worths
  endless : T "is_endless" = some fn_is_endless
  thing : T "is_thing" = some fn_is_thing
  gStem : G "MOST_STEM" = some (.int 60)
  gSmall : G "MOST_SMALL" = some (.int 5)
  gEndless : G "ENDLESS" = some (.str "endless")
section
variable {T : Tab} {G : Str → Option D} {n : Nat} {h : Hh} {d : D}
theorem leaf_ok (W : WT T G) (s : seen h d = true) : run T G (n + 3) "is_leaf" [d] h = .ok (.dat (.bl (leafD d))) h := by
  have g1 := W.gLeaf
  refine ev_eq (v_run W.leaf rfl ?_)
  unfold fn_is_leaf
  simp only [Fn.env, List.map_cons, List.map_nil, Nat.reduceSub, List.replicate_succ, List.replicate_zero, List.cons_append, List.nil_append]
  walk_at "run"
  refine ev_of (among_ok W.whole W.among s) ?_
  walk_at "run"
  exact ⟨rfl, rfl⟩
theorem size_step (W : WT T G) (k : Nat) (ih : ∀ j, k = j + 1 → ∀ (n : Nat) (d : D), Sn h j d → run T G (n + j + 4) "size_within" [d, .int (j : Nat)] h = .ok (.dat (.int (sizeW j d : Nat))) h)
    (n : Nat) (d : D) (s : Sn h k d) : run T G (n + k + 4) "size_within" [d, .int (k : Nat)] h = .ok (.dat (.int (sizeW k d : Nat))) h := by
  have g1 := W.gThings
  have g2 := W.gSize
  have s0 := s.seen
  refine ev_eq (v_run W.size rfl ?_)
  unfold fn_size_within
  simp only [Fn.env, List.map_cons, List.map_nil, Nat.reduceSub, List.replicate_succ, List.replicate_zero, List.cons_append, List.nil_append]
  walk_at "run"
  refine ev_of (leaf_ok W s0) ?_
  walk_at "run"
  refine ev_br (fun h1 => ?_) (fun h1 => ?_)
  · walk_at "run"
    refine ev_br (fun h2 => ?_) (fun h2 => ?_)
    · walk_at "run"
      refine ⟨?_, rfl⟩
      cases k with
      | zero => simp at h2
      | succ k => simp only [sizeW, h1, if_true]; rfl
    · walk_at "run"
      refine ⟨?_, rfl⟩
      cases k with
      | zero => rfl
      | succ k => simp at h2 <;> omega
  · walk_at "run"
    cases k with
    | zero =>
      walk_at "run"
      exact ⟨rfl, rfl⟩
    | succ k =>
      walk_at "run"
      cases d with
      | tup l =>
        walk_at "run"
        refine ev_br (fun h2 => ?_) (fun h2 => ?_)
        · walk_at "run"
          refine ⟨?_, rfl⟩
          simp only [decide_eq_true_eq] at h2
          simp only [sizeW, h1]
          rw [if_neg (by simp), if_neg (by omega)]; rfl
        · simp only [decide_eq_false_iff_not] at h2
          walk_at "run"
          refine ev_for (fun i e g => g = h ∧ (∀ x ∈ l.take i, 0 < sizeW k x) ∧ 1 + ((l.take i).map (sizeW k)).sum ≤ 60 ∧ ∃ s3 s4, e = [.val (.tup l), .val (.int ((k + 1 : Nat) : Int)), .val (.int ((1 + ((l.take i).map (sizeW k)).sum : Nat) : Int)), s3, s4])
            ⟨rfl, by simp, by simp, _, _, rfl⟩ ?_ ?_
          · rintro i x env g hx ⟨rfl, p1, p2, s3, s4, rfl⟩
            have hm : x ∈ l := List.mem_of_getElem? hx
            have ht : l.take (i + 1) = l.take i ++ [x] := by rw [List.take_succ, hx]; rfl
            refine ⟨_, rfl, ?_⟩
            walk_at "run"
            rw [show ((k + 1 : Nat) : Int) - 1 = (k : Nat) by omega]
            refine ev_of (ih k rfl n x (s x hm)) ?_
            walk_at "run"
            refine ev_br (fun h3 => ?_) (fun h3 => ?_)
            · walk_at "run"
              simp only [decide_eq_true_eq] at h3
              refine ⟨?_, rfl⟩
              simp only [sizeW, h1]
              rw [if_neg (by simp), if_neg (fun z => by have := z.2.1 x hm; omega)]; rfl
            · simp only [decide_eq_false_iff_not] at h3
              walk_at "run"
              refine ev_br (fun h4 => ?_) (fun h4 => ?_)
              · walk_at "run"
                simp only [decide_eq_true_eq] at h4
                refine ⟨?_, rfl⟩
                simp only [sizeW, h1]
                rw [if_neg (by simp), if_neg (fun z => ?_)]
                · rfl
                · have hsum : ((l.take (i + 1)).map (sizeW k)).sum ≤ (l.map (sizeW k)).sum := by
                    conv => rhs; rw [← List.take_append_drop (i + 1) l]
                    rw [List.map_append, List.sum_append]; omega
                  rw [ht, List.map_append, List.sum_append, List.map_cons, List.map_nil, List.sum_cons, List.sum_nil] at hsum
                  have := z.2.2
                  omega
              · simp only [decide_eq_false_iff_not] at h4
                walk_at "run"
                have e2 : ((l.take (i + 1)).map (sizeW k)).sum = ((l.take i).map (sizeW k)).sum + sizeW k x := by rw [ht, List.map_append, List.sum_append]; simp
                refine ⟨rfl, fun y hy => ?_, by rw [e2]; omega, .val x, .val (.int (sizeW k x : Nat)), ?_⟩
                · rw [ht] at hy
                  rcases List.mem_append.mp hy with q | q
                  · exact p1 y q
                  · simp at q; subst q; omega
                · rw [e2, show ((1 + (((l.take i).map (sizeW k)).sum + sizeW k x) : Nat) : Int) = ((1 + ((l.take i).map (sizeW k)).sum : Nat) : Int) + (sizeW k x : Nat) by omega]
          · rintro env g ⟨rfl, p1, p2, s3, s4, rfl⟩
            rw [List.take_length] at p1 p2
            walk_at "run"
            refine ⟨?_, rfl⟩
            simp only [sizeW, h1]
            rw [if_neg (by simp), if_pos ⟨by omega, p1, p2⟩, List.take_length]
      | _ =>
        walk_at "run"
        all_goals first
          | (refine ⟨?_, rfl⟩; simp only [sizeW, h1]; rfl)
          | skip
        all_goals
          refine w_isT s0 ?_
          walk_at "run"
          refine ⟨?_, rfl⟩
          simp only [sizeW, h1]; rfl
theorem size_ok (W : WT T G) : ∀ (k n : Nat) (d : D), Sn h k d → run T G (n + k + 4) "size_within" [d, .int (k : Nat)] h = .ok (.dat (.int (sizeW k d : Nat))) h
  | 0, n, d, s => size_step W 0 (fun j e => by cases e) n d s
  | k + 1, n, d, s => size_step W (k + 1) (fun j e => by cases e; exact size_ok W k) n d s
theorem worth_ok (W : WT T G) (s : Sn h 6 d) : run T G (n + 11) "is_worth" [d] h = .ok (.dat (.bl (worthD d))) h := by
  have g1 := W.gDeep
  refine ev_eq (v_run W.worth rfl ?_)
  unfold fn_is_worth
  simp only [Fn.env, List.map_cons, List.map_nil, Nat.reduceSub, List.replicate_succ, List.replicate_zero, List.cons_append, List.nil_append]
  walk_at "run"
  refine ev_of (size_ok W 6 n d s) ?_
  walk_at "run"
  refine ⟨?_, rfl⟩
  unfold worthD
  congr 3
  simp
theorem small_chain (x : Nat) : (decide ((1 : Int) ≤ (x : Int)) && decide ((x : Int) ≤ 5)) = (decide (1 ≤ x) && decide (x ≤ 5)) := by
  congr 1
  · simp; omega
  · simp; omega
theorem worths_ok (W : WT2 T G) {a b : Nat} (hb : b ≤ 60) (s : Sn h 7 d) : run T G (n + 11) "are_worths" [d, .int (a : Nat), .int (b : Nat)] h = .ok (.dat (.bl (smallsD a b d))) h := by
  have g1 := W.gDeep
  have g2 := W.gSmall
  have s0 := s.seen
  refine ev_eq (v_run W.worths rfl ?_)
  unfold fn_are_worths
  simp only [Fn.env, List.map_cons, List.map_nil, Nat.reduceSub, List.replicate_succ, List.replicate_zero, List.cons_append, List.nil_append]
  walk_at "run"
  cases d with
  | tup l =>
    have s1 : ∀ x ∈ l, Sn h 6 x := s
    walk_at "run"
    refine ev_br (fun h1 => ?_) (fun h1 => ?_)
    · walk_at "run"
      refine ev_br (fun h2 => ?_) (fun h2 => ?_)
      · walk_at "run"
        refine ⟨?_, rfl⟩
        simp at h1 h2
        simp only [smallsD]
        rw [decide_eq_false (by omega : ¬ l.length ≤ b)]; simp
      · simp at h1 h2
        walk_at "run"
        have fact : compR (run T G (n + 10)) G [3] (.nm 3) (.con (.bl true)) (.chain .le .le (.con (.int 1)) (.call "size_within" (.cons (.var 3) (.cons (.glo "MOST_DEEP") .nil))) (.glo "MOST_SMALL")) [.val (.tup l), .val (.int (a : Nat)), .val (.int (b : Nat)), .un] l h = .ok (.new (l.map fun x => .bl (smallD x))) h := by
          unfold compR
          rw [comp_map (fun x => .bl (smallD x)) (by rw [sizeLine_eq]; simp only [List.length_nil]; omega) fun x hx => ?_]
          · rw [List.nil_append]
          · refine ev_eq ?_
            show evX _ (compG _ _ _ _ _ h) _
            walk_at "run"
            refine ev_of (size_ok W.toWT 6 n x (s1 x hx)) ?_
            walk_at "run"
            have e := small_chain (sizeW 6 x)
            refine ev_br (fun h3 => ?_) (fun h3 => ?_)
            · walk_at "run"
              rw [h3, Bool.true_and] at e
              exact ⟨by rw [e]; rfl, rfl⟩
            · walk_at "run"
              rw [h3, Bool.false_and] at e
              refine ⟨?_, rfl⟩
              show some (D.bl false) = some (D.bl (smallD x))
              unfold smallD
              rw [← e]
        refine ev_of fact ?_
        walk_at "run"
        refine w_all ?_
        walk_at "run"
        refine ⟨?_, rfl⟩
        simp only [smallsD]
        rw [decide_eq_true h1, decide_eq_true h2]; simp
    · walk_at "run"
      refine ⟨?_, rfl⟩
      simp at h1
      simp only [smallsD]
      rw [decide_eq_false (by omega : ¬ a ≤ l.length)]; simp
  | _ =>
    walk_at "run"
    all_goals first
      | exact ⟨rfl, rfl⟩
      | (refine w_isT s0 ?_
         walk_at "run"
         exact ⟨rfl, rfl⟩)
theorem strOk_endless : PyData.strOk "endless" = true := by decide +kernel
theorem endless_ok (W : WT2 T G) (s : Sn h 8 d) : run T G (n + 12) "is_endless" [d] h = .ok (.dat (.bl (endlessD d))) h := by
  have g1 := W.gStem
  have g2 := W.gThings
  have g3 := W.gEndless
  have s0 := s.seen
  refine ev_eq (v_run W.endless rfl ?_)
  unfold fn_is_endless
  simp only [Fn.env, List.map_cons, List.map_nil, Nat.reduceSub, List.replicate_succ, List.replicate_zero, List.cons_append, List.nil_append]
  walk_at "run"
  cases d with
  | tup l =>
    have s1 : ∀ x ∈ l, Sn h 7 x := s
    walk_at "run"
    refine ev_br (fun h1 => ?_) (fun h1 => ?_)
    · walk_at "run"
      refine ⟨?_, rfl⟩
      match l, h1 with
      | [], _ => rfl
      | [_], _ => simp [endlessD]
      | [_, _], _ => simp [endlessD]
      | [_, _, _], h1 => simp at h1
      | _ :: _ :: _ :: _ :: _, _ => simp only [endlessD]
    · match l, h1, s1 with
      | [x, y, z], _, s1 =>
        have sx := s1 x (by simp)
        have sy := s1 y (by simp)
        have sz := s1 z (by simp)
        have x0 := sx.seen
        walk_at "run"
        refine w_isS x0 ?_
        cases x with
        | str t =>
          show evX _ (notR (.dat (.bl true)) _) _
          walk_at "run"
          refine w_neP (.str sx.str) (.str strOk_endless) ?_
          by_cases ht : t = "endless"
          · subst ht
            rw [show (!decide ((R.dat (D.str "endless")).d = (R.dat (D.str "endless")).d)) = false by simp]
            walk_at "run"
            refine ev_of (worths_ok (a := 0) (b := 60) W (by omega) sy) ?_
            refine ev_br (fun h3 => ?_) (fun h3 => ?_)
            · walk_at "run"
              refine ev_of (worths_ok (a := 1) (b := 10) W (by omega) sz) ?_
              walk_at "run"
              refine ⟨?_, rfl⟩
              simp only [endlessD, h3]; simp
            · walk_at "run"
              refine ⟨?_, rfl⟩
              simp only [endlessD, h3]; simp
          · rw [show (!decide ((R.dat (D.str t)).d = (R.dat (D.str "endless")).d)) = true by simp [R.d, ht]]
            walk_at "run"
            refine ⟨?_, rfl⟩
            simp only [endlessD, ht]; simp
        | _ =>
          show evX _ (notR (.dat (.bl false)) _) _
          walk_at "run"
          exact ⟨by simp only [endlessD], rfl⟩
      | [], h1, _ => simp at h1
      | [_], h1, _ => simp at h1
      | [_, _], h1, _ => simp at h1
      | _ :: _ :: _ :: _ :: _, h1, _ => simp at h1; omega
  | _ =>
    walk_at "run"
    all_goals first
      | exact ⟨rfl, rfl⟩
      | (refine w_isT s0 ?_
         walk_at "run"
         exact ⟨rfl, rfl⟩)
theorem thing_ok (W : WT2 T G) (s : Sn h 8 d) : run T G (n + 13) "is_thing" [d] h = .ok (.dat (.bl (thingD d))) h := by
  refine ev_eq (v_run W.thing rfl ?_)
  unfold fn_is_thing
  simp only [Fn.env, List.map_cons, List.map_nil, Nat.reduceSub, List.replicate_succ, List.replicate_zero, List.cons_append, List.nil_append]
  walk_at "run"
  refine ev_of (worth_ok (n := n + 1) W.toWT (s.down (by omega))) ?_
  refine ev_br (fun h3 => ?_) (fun h3 => ?_)
  · walk_at "run"
    exact ⟨by simp [thingD, h3], rfl⟩
  · walk_at "run"
    refine ev_of (endless_ok W s) ?_
    walk_at "run"
    exact ⟨by simp [thingD, h3], rfl⟩
end
end Mi
/-! Mi18: rows taken apart. -/
namespace Mi
open PySem PySem.Spec PyProof.Rows L2
variable {X : Exc → Hh → Prop}
def fn_need_thing (r : S) : Fn := ⟨1, 1, (.cons (.ifs (.not1 (.call "is_thing" (.cons (.var 0) .nil))) (.cons r .nil) .nil) .nil)⟩
def fn_goes_on : Fn := ⟨1, 1, (.cons (.ret (.and2 (.isi (.var 0) .tuple) (.and2 (.cmp .eq (.blt .len (.cons (.var 0) .nil)) (.con (.int 3))) (.cmp .eq (.ix (.var 0) (.con (.int 0))) (.glo "ENDLESS"))))) .nil)⟩
def fn_least_round : Fn := ⟨1, 2, (.cons (.for' (.nm 1) (.rng2 (.con (.int 1)) (.blt .len (.cons (.var 0) .nil))) (.cons (.ifs (.and2 (.cmp .eq (.bin .mod (.blt .len (.cons (.var 0) .nil)) (.var 1)) (.con (.int 0))) (.cmp .eq (.bin .mul (.sl (.var 0) .no (.part (.var 1))) (.bin .fdiv (.blt .len (.cons (.var 0) .nil)) (.var 1))) (.var 0))) (.cons (.ret (.sl (.var 0) .no (.part (.var 1)))) .nil) .nil) .nil)) (.cons (.ret (.var 0)) .nil))⟩
def fn_leaned : Fn := ⟨2, 2, (.cons (.asg 1 (.call "least_round" (.cons (.var 1) .nil))) (.cons (.whl (.and2 (.cmp .ne (.var 0) (.tup .nil)) (.cmp .eq (.ix (.var 0) (.neg (.con (.int 1)))) (.ix (.var 1) (.neg (.con (.int 1)))))) (.cons (.asg 1 (.bin .add (.sl (.var 1) (.part (.neg (.con (.int 1)))) .no) (.sl (.var 1) .no (.part (.neg (.con (.int 1))))))) (.cons (.asg 0 (.sl (.var 0) .no (.part (.neg (.con (.int 1)))))) .nil))) (.cons (.ret (.tup (.cons (.glo "ENDLESS") (.cons (.var 0) (.cons (.var 1) .nil))))) .nil)))⟩
def fn_lean : Fn := ⟨1, 1, (.cons (.expr (.call "need_thing" (.cons (.var 0) .nil))) (.cons (.ret (.ite (.call "goes_on" (.cons (.var 0) .nil)) (.call "leaned" (.cons (.ix (.var 0) (.con (.int 1))) (.cons (.ix (.var 0) (.con (.int 2))) .nil))) (.var 0))) .nil))⟩
local macro_rules | `(tactic| walk_at "run") => `(tactic| repeat (first
  | with_reducible refine w_notT ?_ | with_reducible refine w_notF ?_
  | with_reducible refine w_con ?_ | ((with_reducible refine' w_var ?e ?_); case e => rfl)
  | with_reducible refine w_bin ?_ | with_reducible refine w_fzD ?_ | with_reducible refine w_bind ?_ | with_reducible refine w_ok ?_
  | with_reducible refine w_addI ?_ | with_reducible refine w_subI ?_
  | with_reducible refine w_cons ?_ | with_reducible refine w_nil ?_ | with_reducible refine w_call ?_
  | with_reducible refine v_cons ?_ | ((with_reducible refine v_contN ?_); try simp only [setV, List.set_cons_succ, List.set_cons_zero]) | with_reducible refine v_contR ?_ | with_reducible refine v_asg ?_ | with_reducible refine v_ret ?_ | with_reducible refine v_retD ?_ | with_reducible refine v_endR ?_
  | with_reducible refine v_nil ?_ | with_reducible refine v_ifs ?_ | with_reducible refine w_brt ?_ | with_reducible refine w_brf ?_
  | with_reducible refine w_and ?_ | with_reducible refine w_or ?_ | with_reducible refine w_not ?_ | with_reducible refine w_notR ?_ | with_reducible refine w_ite ?_
  | with_reducible refine w_cmp ?_ | with_reducible refine w_chain ?_ | with_reducible refine w_ltI ?_ | with_reducible refine w_leI ?_ | with_reducible refine w_gtI ?_ | with_reducible refine w_geI ?_ | with_reducible refine w_eqI ?_
  | with_reducible refine w_isi ?_ | with_reducible refine w_blt ?_ | with_reducible refine w_ix ?_ | with_reducible refine w_dget ?_
  | ((with_reducible refine' w_modI ?e ?_); case e => (first | decide | omega))
  | ((with_reducible refine' w_fdivI ?e ?_); case e => (first | decide | omega))
  | ((with_reducible refine' w_mulI ?e ?_); case e => (first | exact near_r (by decide) | exact near_l (by decide) | exact near_ro (by omega) (by omega) | exact near_lo (by omega) (by omega)))
  | ((with_reducible refine' w_powI ?e ?_); case e => decide)
  | with_reducible refine w_neg ?_ | with_reducible refine w_negI ?_
  | with_reducible refine w_tup ?_ | with_reducible refine w_lst ?_ | ((with_reducible refine' w_lenR ?e ?_); case e => (first | decide | (simp only [List.length_cons, List.length_nil, Nat.zero_add, Nat.reduceAdd]; decide)))
  | with_reducible refine w_fzN ?_ | ((with_reducible refine' w_glo ?e ?_); case e => (first | assumption | rfl))
  | with_reducible refine w_sl ?_ | with_reducible refine w_ono ?_ | with_reducible refine w_opart ?_ | with_reducible refine w_intR ?_ | with_reducible refine w_strR ?_ | with_reducible refine w_tupR ?_ | with_reducible refine w_newR ?_ | ((with_reducible refine' w_optR ?e ?_); case e => rfl)
  | with_reducible refine w_mth ?_ | with_reducible refine w_comp ?_ | with_reducible refine w_seq ?_ | with_reducible refine w_rng1 ?_ | with_reducible refine w_rng2 ?_ | with_reducible refine w_rng3 ?_ | with_reducible refine w_enum ?_ | ((with_reducible refine' w_rng1R ?e ?_); case e => exact rng_ok1 (by omega) (by omega)) | ((with_reducible refine' w_rngR ?e ?_); case e => exact rng_ok2 (by omega) (by omega) (by omega) (by omega)) | ((with_reducible refine' w_rngD ?e ?_); case e => exact rng_ok2 (by omega) (by omega) (by omega) (by omega))
  | with_reducible refine w_promo ?_ | with_reducible refine w_proN ?_ | with_reducible refine w_proD ?_ | with_reducible refine w_dct ?_ | ((with_reducible refine' w_dctR ?e ?_); case e => decide)
  | with_reducible refine v_own ?_ | with_reducible refine v_any ?_ | with_reducible refine v_anyN ?_ | with_reducible refine v_anyD ?_ | with_reducible refine w_blt1 ?_ | with_reducible refine v_asgs ?_ | with_reducible refine v_setL ?_ | with_reducible refine v_setD ?_ | with_reducible refine v_setOwn ?_ | ((with_reducible refine' v_ownR ?e ?_); case e => rfl)
  | ((with_reducible refine' v_app ?e ?_); case e => rfl) | ((with_reducible refine' v_ext ?e ?_); case e => rfl) | with_reducible refine v_expr ?_ | with_reducible refine v_for ?_ | with_reducible refine v_whl ?_
  | ((with_reducible refine' v_retV ?e ?_); case e => rfl) | with_reducible refine v_retn ?_ | with_reducible refine v_pass ?_ | with_reducible refine v_brk ?_ | with_reducible refine v_cnt ?_ | ((with_reducible refine' v_frz ?e ?_); case e => rfl)
  | with_reducible refine v_contB ?_ | with_reducible refine v_contC ?_ | with_reducible refine v_retN ?_ | with_reducible refine v_endN ?_ | with_reducible refine w_compG ?_
  | ((with_reducible refine' w_varO ?e ?_); case e => rfl)
  | ((with_reducible refine' w_dgetK ?e ?q ?_); (case e => first | assumption | rfl); (case q => rfl); (try dsimp only))
  | with_reducible refine w_lenT ?_ | with_reducible refine w_lenLs ?_ | with_reducible refine w_slT ?_ | with_reducible refine w_slL ?_ | with_reducible refine w_tupN ?_ | with_reducible refine w_seqT ?_ | with_reducible refine w_seqL ?_ | with_reducible refine w_seqN ?_ | with_reducible refine w_intB ?_ | with_reducible refine w_intI ?_ | with_reducible refine w_neI ?_
  | with_reducible refine w_isi_int_non ?_ | with_reducible refine w_isi_int_bl ?_ | with_reducible refine w_isi_int_int ?_ | with_reducible refine w_isi_int_str ?_ | with_reducible refine w_isi_int_tup ?_ | with_reducible refine w_isi_int_lst ?_ | with_reducible refine w_isi_bool_non ?_ | with_reducible refine w_isi_bool_bl ?_ | with_reducible refine w_isi_bool_int ?_ | with_reducible refine w_isi_bool_str ?_ | with_reducible refine w_isi_bool_tup ?_ | with_reducible refine w_isi_bool_lst ?_ | with_reducible refine w_isi_str_non ?_ | with_reducible refine w_isi_str_bl ?_ | with_reducible refine w_isi_str_int ?_ | with_reducible refine w_isi_str_str ?_ | with_reducible refine w_isi_str_tup ?_ | with_reducible refine w_isi_str_lst ?_ | with_reducible refine w_isi_tuple_non ?_ | with_reducible refine w_isi_tuple_bl ?_ | with_reducible refine w_isi_tuple_int ?_ | with_reducible refine w_isi_tuple_str ?_ | with_reducible refine w_isi_tuple_tup ?_ | with_reducible refine w_isi_tuple_lst ?_ | with_reducible refine w_isi_list_non ?_ | with_reducible refine w_isi_list_bl ?_ | with_reducible refine w_isi_list_int ?_ | with_reducible refine w_isi_list_str ?_ | with_reducible refine w_isi_list_tup ?_ | with_reducible refine w_isi_list_lst ?_
  | with_reducible refine w_lrng1 ?_ | with_reducible refine w_lrng2 ?_ | ((with_reducible refine' w_lrngR ?e ?_); case e => (refine ⟨?_, ?_, ?_, ?_, ?_⟩ <;> omega)) | with_reducible refine w_lrngR2 ?_ | with_reducible refine w_max2 ?_ | with_reducible refine w_min2 ?_ | with_reducible refine w_zip ?_ | with_reducible refine w_zipT ?_ | with_reducible refine w_zipL ?_ | with_reducible refine w_zipLN ?_
  | with_reducible refine w_fnv ?_ | with_reducible refine w_isx ?_ | with_reducible refine w_attr ?_ | ((with_reducible refine' w_attrR ?e ?_); case e => rfl) | ((with_reducible refine' w_callv ?e ?_); case e => rfl) | with_reducible refine w_told ?_ | with_reducible refine v_raise ?_
  | ((with_reducible refine' w_ixT ?e ?_); case e => rfl)
  | ((with_reducible refine' w_brd ?e ?_); case e => omega)
  | ((with_reducible refine' w_brn ?e ?_); case e => omega)
  | ((with_reducible refine' w_brnd ?e ?_); case e => omega)
  | ((with_reducible refine' w_brnn ?e ?_); case e => omega)
  | ((with_reducible refine' w_brp ?e ?_); case e => assumption)
  | ((with_reducible refine' w_brq ?e ?_); case e => assumption)))
local macro_rules | `(tactic| walk_at "one") => `(tactic| (first
  | with_reducible refine w_notT ?_ | with_reducible refine w_notF ?_
  | with_reducible refine w_con ?_ | ((with_reducible refine' w_var ?e ?_); case e => rfl)
  | with_reducible refine w_bin ?_ | with_reducible refine w_fzD ?_ | with_reducible refine w_bind ?_ | with_reducible refine w_ok ?_
  | with_reducible refine w_addI ?_ | with_reducible refine w_subI ?_
  | with_reducible refine w_cons ?_ | with_reducible refine w_nil ?_ | with_reducible refine w_call ?_
  | with_reducible refine v_cons ?_ | ((with_reducible refine v_contN ?_); try simp only [setV, List.set_cons_succ, List.set_cons_zero]) | with_reducible refine v_contR ?_ | with_reducible refine v_asg ?_ | with_reducible refine v_ret ?_ | with_reducible refine v_retD ?_ | with_reducible refine v_endR ?_
  | with_reducible refine v_nil ?_ | with_reducible refine v_ifs ?_ | with_reducible refine w_brt ?_ | with_reducible refine w_brf ?_
  | with_reducible refine w_and ?_ | with_reducible refine w_or ?_ | with_reducible refine w_not ?_ | with_reducible refine w_notR ?_ | with_reducible refine w_ite ?_
  | with_reducible refine w_cmp ?_ | with_reducible refine w_chain ?_ | with_reducible refine w_ltI ?_ | with_reducible refine w_leI ?_ | with_reducible refine w_gtI ?_ | with_reducible refine w_geI ?_ | with_reducible refine w_eqI ?_
  | with_reducible refine w_isi ?_ | with_reducible refine w_blt ?_ | with_reducible refine w_ix ?_ | with_reducible refine w_dget ?_
  | ((with_reducible refine' w_modI ?e ?_); case e => (first | decide | omega))
  | ((with_reducible refine' w_fdivI ?e ?_); case e => (first | decide | omega))
  | ((with_reducible refine' w_mulI ?e ?_); case e => (first | exact near_r (by decide) | exact near_l (by decide) | exact near_ro (by omega) (by omega) | exact near_lo (by omega) (by omega)))
  | ((with_reducible refine' w_powI ?e ?_); case e => decide)
  | with_reducible refine w_neg ?_ | with_reducible refine w_negI ?_
  | with_reducible refine w_tup ?_ | with_reducible refine w_lst ?_ | ((with_reducible refine' w_lenR ?e ?_); case e => (first | decide | (simp only [List.length_cons, List.length_nil, Nat.zero_add, Nat.reduceAdd]; decide)))
  | with_reducible refine w_fzN ?_ | ((with_reducible refine' w_glo ?e ?_); case e => (first | assumption | rfl))
  | with_reducible refine w_sl ?_ | with_reducible refine w_ono ?_ | with_reducible refine w_opart ?_ | with_reducible refine w_intR ?_ | with_reducible refine w_strR ?_ | with_reducible refine w_tupR ?_ | with_reducible refine w_newR ?_ | ((with_reducible refine' w_optR ?e ?_); case e => rfl)
  | with_reducible refine w_mth ?_ | with_reducible refine w_comp ?_ | with_reducible refine w_seq ?_ | with_reducible refine w_rng1 ?_ | with_reducible refine w_rng2 ?_ | with_reducible refine w_rng3 ?_ | with_reducible refine w_enum ?_ | ((with_reducible refine' w_rng1R ?e ?_); case e => exact rng_ok1 (by omega) (by omega)) | ((with_reducible refine' w_rngR ?e ?_); case e => exact rng_ok2 (by omega) (by omega) (by omega) (by omega)) | ((with_reducible refine' w_rngD ?e ?_); case e => exact rng_ok2 (by omega) (by omega) (by omega) (by omega))
  | with_reducible refine w_promo ?_ | with_reducible refine w_proN ?_ | with_reducible refine w_proD ?_ | with_reducible refine w_dct ?_ | ((with_reducible refine' w_dctR ?e ?_); case e => decide)
  | with_reducible refine v_own ?_ | with_reducible refine v_any ?_ | with_reducible refine v_anyN ?_ | with_reducible refine v_anyD ?_ | with_reducible refine w_blt1 ?_ | with_reducible refine v_asgs ?_ | with_reducible refine v_setL ?_ | with_reducible refine v_setD ?_ | with_reducible refine v_setOwn ?_ | ((with_reducible refine' v_ownR ?e ?_); case e => rfl)
  | ((with_reducible refine' v_app ?e ?_); case e => rfl) | ((with_reducible refine' v_ext ?e ?_); case e => rfl) | with_reducible refine v_expr ?_ | with_reducible refine v_for ?_ | with_reducible refine v_whl ?_
  | ((with_reducible refine' v_retV ?e ?_); case e => rfl) | with_reducible refine v_retn ?_ | with_reducible refine v_pass ?_ | with_reducible refine v_brk ?_ | with_reducible refine v_cnt ?_ | ((with_reducible refine' v_frz ?e ?_); case e => rfl)
  | with_reducible refine v_contB ?_ | with_reducible refine v_contC ?_ | with_reducible refine v_retN ?_ | with_reducible refine v_endN ?_ | with_reducible refine w_compG ?_
  | ((with_reducible refine' w_varO ?e ?_); case e => rfl)
  | ((with_reducible refine' w_dgetK ?e ?q ?_); (case e => first | assumption | rfl); (case q => rfl); (try dsimp only))
  | with_reducible refine w_lenT ?_ | with_reducible refine w_lenLs ?_ | with_reducible refine w_slT ?_ | with_reducible refine w_slL ?_ | with_reducible refine w_tupN ?_ | with_reducible refine w_seqT ?_ | with_reducible refine w_seqL ?_ | with_reducible refine w_seqN ?_ | with_reducible refine w_intB ?_ | with_reducible refine w_intI ?_ | with_reducible refine w_neI ?_
  | with_reducible refine w_isi_int_non ?_ | with_reducible refine w_isi_int_bl ?_ | with_reducible refine w_isi_int_int ?_ | with_reducible refine w_isi_int_str ?_ | with_reducible refine w_isi_int_tup ?_ | with_reducible refine w_isi_int_lst ?_ | with_reducible refine w_isi_bool_non ?_ | with_reducible refine w_isi_bool_bl ?_ | with_reducible refine w_isi_bool_int ?_ | with_reducible refine w_isi_bool_str ?_ | with_reducible refine w_isi_bool_tup ?_ | with_reducible refine w_isi_bool_lst ?_ | with_reducible refine w_isi_str_non ?_ | with_reducible refine w_isi_str_bl ?_ | with_reducible refine w_isi_str_int ?_ | with_reducible refine w_isi_str_str ?_ | with_reducible refine w_isi_str_tup ?_ | with_reducible refine w_isi_str_lst ?_ | with_reducible refine w_isi_tuple_non ?_ | with_reducible refine w_isi_tuple_bl ?_ | with_reducible refine w_isi_tuple_int ?_ | with_reducible refine w_isi_tuple_str ?_ | with_reducible refine w_isi_tuple_tup ?_ | with_reducible refine w_isi_tuple_lst ?_ | with_reducible refine w_isi_list_non ?_ | with_reducible refine w_isi_list_bl ?_ | with_reducible refine w_isi_list_int ?_ | with_reducible refine w_isi_list_str ?_ | with_reducible refine w_isi_list_tup ?_ | with_reducible refine w_isi_list_lst ?_
  | with_reducible refine w_lrng1 ?_ | with_reducible refine w_lrng2 ?_ | ((with_reducible refine' w_lrngR ?e ?_); case e => (refine ⟨?_, ?_, ?_, ?_, ?_⟩ <;> omega)) | with_reducible refine w_lrngR2 ?_ | with_reducible refine w_max2 ?_ | with_reducible refine w_min2 ?_ | with_reducible refine w_zip ?_ | with_reducible refine w_zipT ?_ | with_reducible refine w_zipL ?_ | with_reducible refine w_zipLN ?_
  | with_reducible refine w_fnv ?_ | with_reducible refine w_isx ?_ | with_reducible refine w_attr ?_ | ((with_reducible refine' w_attrR ?e ?_); case e => rfl) | ((with_reducible refine' w_callv ?e ?_); case e => rfl) | with_reducible refine w_told ?_ | with_reducible refine v_raise ?_
  | ((with_reducible refine' w_ixT ?e ?_); case e => rfl)
  | ((with_reducible refine' w_brd ?e ?_); case e => omega)
  | ((with_reducible refine' w_brn ?e ?_); case e => omega)
  | ((with_reducible refine' w_brnd ?e ?_); case e => omega)
  | ((with_reducible refine' w_brnn ?e ?_); case e => omega)
  | ((with_reducible refine' w_brp ?e ?_); case e => assumption)
  | ((with_reducible refine' w_brq ?e ?_); case e => assumption)))

theorem ev_whl {C : Calls'} {G : Str → Option D} {c : E} {b : Ss} {Q : Fl → Hh → Prop} (I : Nat → Env' → Hh → Prop)
    (step : ∀ m env h, I m env h → evX X (evalE C G c env h) fun r h1 => evX X (brR r (execSs C G b env h1) (.ok (.bk env) h1)) fun fl h2 => match fl with
      | .nx e => ∃ m', m' < m ∧ I m' e h2
      | .ct e => ∃ m', m' < m ∧ I m' e h2
      | .bk e => Q (.nx e) h2
      | .rt r => Q (.rt r) h2) : ∀ (N m : Nat) {env : Env'} {h : Hh}, m < N → I m env h → evX X (whlR C G c b N env h) Q := by
  intro N
  induction N with
  | zero => intro m env h hm; omega
  | succ N ih =>
    intro m env h hm i
    have p := step m env h i
    unfold whlR whlLoop
    cases q : evalE C G c env h with
    | bad => rw [q] at p; exact p.elim
    | ex x h1 => rw [q] at p; exact p
    | ok r h1 =>
      rw [q] at p
      change evX _ (brR r (execSs C G b env h1) (.ok (.bk env) h1)) _ at p
      show evX _ (match (Res.ok r h1 : Res R) with
        | .ok (.dat (.bl true)) h1 => match execSs C G b env h1 with
          | .ok (.nx env2) h2 => whlR C G c b N env2 h2
          | .ok (.ct env2) h2 => whlR C G c b N env2 h2
          | .ok (.bk env2) h2 => .ok (.nx env2) h2
          | .ok (.rt r) h2 => .ok (.rt r) h2
          | .ex x h2 => .ex x h2
          | .bad => .bad
        | .ok (.dat (.bl false)) h1 => .ok (.nx env) h1
        | .ex x h1 => .ex x h1
        | _ => .bad) Q
      cases r with
      | dat d =>
        cases d with
        | bl k =>
          cases k with
          | false => exact p
          | true =>
            change evX _ (execSs C G b env h1) _ at p
            show evX _ (match execSs C G b env h1 with
              | .ok (.nx env2) h2 => whlR C G c b N env2 h2
              | .ok (.ct env2) h2 => whlR C G c b N env2 h2
              | .ok (.bk env2) h2 => .ok (.nx env2) h2
              | .ok (.rt r) h2 => .ok (.rt r) h2
              | .ex x h2 => .ex x h2
              | .bad => .bad) Q
            cases q2 : execSs C G b env h1 with
            | bad => rw [q2] at p; exact p.elim
            | ex x h1 => rw [q2] at p; exact p
            | ok fl h2 =>
              rw [q2] at p
              cases fl with
              | nx e =>
                obtain ⟨m', hm', i'⟩ := p
                exact ih m' (by omega) i'
              | ct e =>
                obtain ⟨m', hm', i'⟩ := p
                exact ih m' (by omega) i'
              | bk e => exact p
              | rt r => exact p
        | _ => exact p.elim
      | _ => exact p.elim
noncomputable def goesD : D → Bool
  | .tup [x, _, _] => decide (x = .str "endless")
  | _ => false
/-- an endless row of a stem and a round -/
def endl (s a : List D) : D := .tup [.str "endless", .tup s, .tup a]
noncomputable def lnOf (s a : List D) : D := endl (leaned s a).1 (leaned s a).2
theorem goes_endl {s a : List D} : goesD (endl s a) = true := by simp [goesD, endl]
structure WT3 (T : Tab) (G : Str → Option D) : Prop where
  goes : T "goes_on" = some fn_goes_on
  least : T "least_round" = some fn_least_round
  leaned : T "leaned" = some fn_leaned
  gEnd : G "ENDLESS" = some (.str "endless")
section
variable {T : Tab} {G : Str → Option D} {n : Nat} {h : Hh} {d : D}
theorem goes_ok (W : WT3 T G) (s : Pl 50 d) : run T G (n + 1) "goes_on" [d] h = .ok (.dat (.bl (goesD d))) h := by
  have g1 := W.gEnd
  refine ev_eq (v_run W.goes rfl ?_)
  unfold fn_goes_on
  simp only [Fn.env, List.map_cons, List.map_nil, Nat.reduceSub, List.replicate_succ, List.replicate_zero, List.cons_append, List.nil_append]
  walk_at "run"
  cases d with
  | tup l =>
    have s1 : ∀ x ∈ l, Pl 49 x := s
    walk_at "run"
    refine ev_br (fun h1 => ?_) (fun h1 => ?_)
    · match l, h1, s1 with
      | [x, y, z], _, s1 =>
        have sx := s1 x (by simp)
        walk_at "run"
        refine w_eqP (sx.le (by omega)) (.str strOk_endless) ?_
        walk_at "run"
        exact ⟨rfl, rfl⟩
      | [], h1, _ => simp at h1
      | [_], h1, _ => simp at h1
      | [_, _], h1, _ => simp at h1
      | _ :: _ :: _ :: _ :: _, h1, _ => simp at h1; omega
    · walk_at "run"
      refine ⟨?_, rfl⟩
      match l, h1 with
      | [x, y, z], h1 => simp at h1
      | [], _ => rfl
      | [_], _ => simp [goesD]
      | [_, _], _ => simp [goesD]
      | _ :: _ :: _ :: _ :: _, h1 => simp [goesD]
  | _ =>
    walk_at "run"
    all_goals first
      | exact ⟨rfl, rfl⟩
      | exact s.elim
theorem pl_rep {k m : Nat} {a b : List D} (ha : ∀ x ∈ a, Pl k x) (hb : ∀ x ∈ b, x ∈ a) : Pl (k + 1) (.tup (List.replicate m b).flatten) := by
  refine Pl.tup fun x hx => ?_
  obtain ⟨l, hl, hx⟩ := List.mem_flatten.mp hx
  rw [List.eq_of_mem_replicate hl] at hx
  exact ha x (hb x hx)
theorem leastR_of {a : List D} {m : Nat} (h1 : hasP a m) (h2 : ∀ j, j < m → ¬ hasP a j) : leastR a = a.take m := by
  rcases leastR_cases a with ⟨k, hk, lk, e⟩ | ⟨no, _⟩
  · have : k = m := Nat.le_antisymm (Nat.le_of_not_lt fun z => lk m z h1) (Nat.le_of_not_lt fun z => h2 k z hk)
    rw [e, this]
  · exact absurd h1 (no m)
theorem leastR_non {a : List D} (h2 : ∀ j, j < a.length → ¬ hasP a j) : leastR a = a := by
  rcases leastR_cases a with ⟨k, hk, lk, e⟩ | ⟨_, e⟩
  · exact absurd hk (h2 k hk.2.1)
  · exact e
theorem least_ok (W : WT3 T G) {a : List D} (ha : ∀ x ∈ a, Pl 50 x) (hl : a.length ≤ 1000) : run T G (n + 1) "least_round" [.tup a] h = .ok (.dat (.tup (leastR a))) h := by
  refine ev_eq (v_run W.least rfl ?_)
  unfold fn_least_round
  simp only [Fn.env, List.map_cons, List.map_nil, Nat.reduceSub, List.replicate_succ, List.replicate_zero, List.cons_append, List.nil_append]
  walk_at "run"
  refine ev_for (fun i e g => g = h ∧ (∀ j, j < 1 + i → ¬ hasP a j) ∧ ∃ s1, e = [.val (.tup a), s1]) ⟨rfl, fun j hj z => by have := z.1; omega, _, rfl⟩ ?_ ?_
  · rintro i x env g hx ⟨rfl, p1, s1, rfl⟩
    obtain ⟨hi, rfl⟩ := rng_get hx
    obtain ⟨m, em⟩ : ∃ m, m = 1 + i := ⟨_, rfl⟩
    rw [show (1 : Int) + (i : Nat) = (m : Int) by omega]
    have hm : m < a.length := by omega
    have hm1 : 0 < m := by omega
    rw [← em] at p1
    rw [show 1 + (i + 1) = m + 1 by omega]
    refine ⟨_, rfl, ?_⟩
    walk_at "run"
    have ed : ((a.length : Nat) : Int) / ((m : Nat) : Int) = ((a.length / m : Nat) : Int) := by simp
    obtain ⟨q, hq⟩ : ∃ q, q = a.length / m := ⟨_, rfl⟩
    rw [← hq] at ed
    have en : ((a.length : Nat) : Int) % ((m : Nat) : Int) = ((a.length % m : Nat) : Int) := by simp
    rw [en]
    refine ev_br (fun h1 => ?_) (fun h1 => ?_)
    · simp only [decide_eq_true_eq] at h1
      walk_at "run"
      rw [cut_toN, ed]
      have hd : a.length / m * m = a.length := Nat.div_mul_cancel (Nat.dvd_of_mod_eq_zero (by omega))
      have hlt : (a.take m).length = m := by rw [List.length_take]; omega
      have hdl : a.length / m ≤ a.length := Nat.div_le_self _ _
      rw [← hq] at hd hdl
      have z1 : q ≤ big := le_big (by omega)
      have z2 : (a.take m).length * q ≤ big := le_big (by rw [hlt, Nat.mul_comm, hd]; omega)
      with_reducible refine w_mulTN z1 z2 ?_
      walk_at "run"
      refine w_eqP (Pl.le (pl_rep ha fun x hx => List.mem_of_mem_take hx) (by omega)) (Pl.le (Pl.tup ha) (by omega)) ?_
      refine ev_br (fun h2 => ?_) (fun h2 => ?_)
      · simp only [R.d, decide_eq_true_eq, D.tup.injEq] at h2
        walk_at "run"
        rw [cut_toN]
        exact ⟨by rw [leastR_of ⟨hm1, hm, by omega, by rw [← hq]; exact h2⟩ p1], rfl⟩
      · simp only [R.d, decide_eq_false_iff_not, D.tup.injEq] at h2
        walk_at "run"
        refine ⟨rfl, fun j hj z => ?_, _, rfl⟩
        by_cases e : j = m
        · subst e; exact h2 (by rw [hq]; exact z.2.2.2)
        · exact p1 j (by omega) z
    · simp only [decide_eq_false_iff_not] at h1
      walk_at "run"
      refine ⟨rfl, fun j hj z => ?_, _, rfl⟩
      by_cases e : j = m
      · subst e; exact h1 (by rw [z.2.2.1]; rfl)
      · exact p1 j (by omega) z
  · rintro env g ⟨rfl, p1, s1, rfl⟩
    walk_at "run"
    refine ⟨?_, rfl⟩
    rw [leastR_non fun j hj => p1 j (by simp [rngL]; omega)]
theorem last_eq {s a : List D} (hs : s ≠ []) (ha : a ≠ []) : (s.getLast hs = a.getLast ha) ↔ s.getLast? = a.getLast? := by
  rw [List.getLast?_eq_some_getLast hs, List.getLast?_eq_some_getLast ha]; simp
theorem leaned_run (W : WT3 T G) {s a : List D} (hs : ∀ x ∈ s, Pl 50 x) (ha : ∀ x ∈ a, Pl 50 x) (ls : s.length ≤ 1000) (la : a.length ≤ 1000) (h0 : a ≠ []) : run T G (n + 2) "leaned" [.tup s, .tup a] h = .ok (.dat (lnOf s a)) h := by
  have g1 := W.gEnd
  refine ev_eq (v_run W.leaned rfl ?_)
  unfold fn_leaned
  simp only [Fn.env, List.map_cons, List.map_nil, Nat.reduceSub, List.replicate_succ, List.replicate_zero, List.cons_append, List.nil_append]
  walk_at "run"
  refine ev_of (least_ok W ha la) ?_
  walk_at "run"
  obtain ⟨l1, l2, l3, l4, l5⟩ := leastR_ok h0
  refine ev_whl (fun m e g => g = h ∧ ∃ s' a', e = [.val (.tup s'), .val (.tup a')] ∧ s'.length = m ∧ a' ≠ [] ∧ leanW s' a' = leaned s a ∧ (∀ x ∈ s', Pl 50 x) ∧ (∀ x ∈ a', Pl 50 x) ∧ a'.length ≤ 1000) ?_ whlMost s.length (Nat.lt_of_le_of_lt ls (by decide))
    ⟨rfl, s, leastR a, rfl, rfl, l1, rfl, hs, fun x hx => ha x (l5 x hx), by omega⟩
  rintro m env g ⟨rfl, s', a', rfl, rfl, a0, eq, ps, pa, la'⟩
  walk_at "run"
  refine w_neP (Pl.le (Pl.tup ps) (by omega)) (Pl.le (Pl.tup (k := 50) (l := []) (by simp)) (by omega)) ?_
  have stop : ¬ (s' ≠ [] ∧ s'.getLast? = a'.getLast?) → leaned s a = (s', a') := fun q => by rw [← eq]; unfold leanW; rw [dif_neg q]
  by_cases z : s' = []
  · subst z
    rw [show (!decide ((R.dat (D.tup [])).d = (R.dat (D.tup [])).d)) = false by simp]
    walk_at "run"
    refine ⟨?_, rfl⟩
    unfold lnOf endl
    rw [stop (by simp)]
  · rw [show (!decide ((R.dat (D.tup s')).d = (R.dat (D.tup [])).d)) = true by simp [R.d, z]]
    walk_at "run"
    refine w_ixT (atI_last' z) ?_
    walk_at "run"
    refine w_ixT (atI_last' a0) ?_
    refine w_eqP (Pl.le (ps _ (List.getLast_mem z)) (by omega)) (Pl.le (pa _ (List.getLast_mem a0)) (by omega)) ?_
    refine ev_br (fun h1 => ?_) (fun h1 => ?_)
    · have h1 : s'.getLast z = a'.getLast a0 := of_decide_eq_true h1
      rw [last_eq] at h1
      walk_at "run"
      rw [cut_last, cut_init]
      refine w_addT (le_big (by rw [List.length_drop, List.length_dropLast]; omega)) ?_
      walk_at "run"
      rw [cut_init]
      have hp : 0 < s'.length := List.length_pos_iff.mpr z
      refine ⟨s'.length - 1, by omega, rfl, s'.dropLast, rotR a', rfl, by rw [List.length_dropLast], rotR_ne a0, ?_, fun x hx => ps x ((List.dropLast_sublist _).subset hx), fun x hx => pa x (rotR_mem hx), by rw [rotR_len]; exact la'⟩
      rw [← eq]
      conv => rhs; unfold leanW
      rw [dif_pos ⟨z, h1⟩]
    · have h1 : ¬ s'.getLast z = a'.getLast a0 := of_decide_eq_false h1
      rw [last_eq] at h1
      walk_at "run"
      refine ⟨?_, rfl⟩
      unfold lnOf endl
      rw [stop fun q => h1 q.2]
end
/-! ### good rows -/
theorem size_pl : ∀ (k : Nat) (d : D), 0 < sizeW k d → Pl k d
  | 0, d, p => by simp [sizeW] at p
  | k + 1, d, p => by
    simp only [sizeW] at p
    split at p
    · rename_i q
      cases d <;> first | exact True.intro | cases q
    · split at p
      · rename_i l _
        split at p
        · rename_i q
          exact Pl.tup fun x hx => size_pl k x (q.2.1 x hx)
        · omega
      · omega
theorem size_tup {k : Nat} {l : List D} : sizeW (k + 1) (.tup l) = if l.length ≤ 10 ∧ (∀ x ∈ l, 0 < sizeW k x) ∧ 1 + (l.map (sizeW k)).sum ≤ 60 then 1 + (l.map (sizeW k)).sum else 0 := rfl
theorem size_row {k : Nat} {l : List D} (p : 0 < sizeW (k + 1) (.tup l)) : l.length ≤ 10 ∧ (∀ x ∈ l, 0 < sizeW k x) ∧ 1 + (l.map (sizeW k)).sum ≤ 60 ∧ sizeW (k + 1) (.tup l) = 1 + (l.map (sizeW k)).sum := by
  rw [size_tup] at p ⊢
  split at p
  · rename_i q
    rw [if_pos q]
    exact ⟨q.1, q.2.1, q.2.2, rfl⟩
  · omega
theorem worth_pl {d : D} (w : worthD d = true) : Pl 6 d := size_pl 6 d (by simpa [worthD] using w)
theorem small_worth {d : D} (w : smallD d = true) : worthD d = true := by
  simp only [smallD, Bool.and_eq_true, decide_eq_true_eq] at w
  simp only [worthD, decide_eq_true_eq]; omega
theorem small_pl {d : D} (w : smallD d = true) : Pl 6 d := worth_pl (small_worth w)
theorem worth_str {s : Str} {k : Nat} : sizeW k (.str s) = 0 := by cases k <;> simp [sizeW, leafD, among]
theorem worth_goes {d : D} (w : worthD d = true) : goesD d = false := by
  cases d with
  | tup l =>
    match l, w with
    | [x, y, z], w =>
      simp only [goesD]
      refine decide_eq_false fun e => ?_
      subst e
      have := (size_row (k := 5) (by simpa [worthD] using w)).2.1 (.str "endless") (by simp)
      rw [worth_str] at this
      omega
    | [], _ => rfl
    | [_], _ => simp [goesD]
    | [_, _], _ => simp [goesD]
    | _ :: _ :: _ :: _ :: _, _ => simp [goesD]
  | _ => rfl
/-- an endless row that is one -/
structure IR (s a : List D) : Prop where
  ls : s.length ≤ 60
  la : a.length ≤ 10
  a0 : a ≠ []
  ss : ∀ x ∈ s, smallD x = true
  sa : ∀ x ∈ a, smallD x = true
theorem ir_iff {s a : List D} : endlessD (endl s a) = true ↔ IR s a := by
  simp only [endl, endlessD, smallsD, Bool.and_eq_true, decide_eq_true_eq, List.all_eq_true, true_and]
  constructor
  · rintro ⟨⟨⟨_, q2⟩, q3⟩, ⟨q4, q5⟩, q6⟩
    exact ⟨q2, q5, fun z => by subst z; simp at q4, q3, q6⟩
  · rintro ⟨q1, q2, q3, q4, q5⟩
    exact ⟨⟨⟨Nat.zero_le _, q1⟩, q4⟩, ⟨List.length_pos_iff.mpr q3, q2⟩, q5⟩
theorem IR.pl {s a : List D} (i : IR s a) : Pl 8 (endl s a) := by
  refine Pl.tup fun x hx => ?_
  simp only [List.mem_cons, List.not_mem_nil, or_false] at hx
  rcases hx with rfl | rfl | rfl
  · exact .str strOk_endless
  · exact Pl.tup fun x hx => small_pl (i.ss x hx)
  · exact Pl.tup fun x hx => small_pl (i.sa x hx)
theorem IR.thing {s a : List D} (i : IR s a) : thingD (endl s a) = true := by simp [thingD, ir_iff.mpr i]
theorem IR.lean {s a : List D} (i : IR s a) : IR (leaned s a).1 (leaned s a).2 := by
  obtain ⟨i1, i2, i3, i4, i5, i6⟩ := leaned_ok (s := s) i.a0
  exact ⟨Nat.le_trans i3 i.ls, Nat.le_trans i4 i.la, i1.1, fun x hx => i.ss x (i5 x hx), fun x hx => i.sa x (i6 x hx)⟩
theorem worth_thing {d : D} (w : worthD d = true) : thingD d = true := by simp [thingD, w]
section
variable {T : Tab} {G : Str → Option D} {n : Nat} {h : Hh} {d : D}
theorem lean_inf (W : WT3 T G) {s a : List D} (i : IR s a) : run T G (n + 2) "leaned" [.tup s, .tup a] h = .ok (.dat (lnOf s a)) h :=
  leaned_run W (fun x hx => (small_pl (i.ss x hx)).le (by omega)) (fun x hx => (small_pl (i.sa x hx)).le (by omega)) (by have := i.ls; omega) (by have := i.la; omega) i.a0
theorem need_ok (W : WT2 T G) {r : S} (hT : T "need_thing" = some (fn_need_thing r)) (s : Sn h 8 d) (t : thingD d = true) : run T G (n + 14) "need_thing" [d] h = .ok (.dat .non) h := by
  refine ev_eq (v_run hT rfl ?_)
  unfold fn_need_thing
  simp only [Fn.env, List.map_cons, List.map_nil, Nat.reduceSub, List.replicate_succ, List.replicate_zero, List.cons_append, List.nil_append]
  walk_at "run"
  refine ev_of (thing_ok W s) ?_
  rw [t]
  walk_at "run"
  exact ⟨rfl, rfl⟩
theorem lean_run (W : WT2 T G) (W3 : WT3 T G) {r : S} (hN : T "need_thing" = some (fn_need_thing r)) (hT : T "lean" = some fn_lean) {s a : List D} (i : IR s a) : run T G (n + 15) "lean" [endl s a] h = .ok (.dat (lnOf s a)) h := by
  refine ev_eq (v_run hT rfl ?_)
  unfold fn_lean
  simp only [Fn.env, List.map_cons, List.map_nil, Nat.reduceSub, List.replicate_succ, List.replicate_zero, List.cons_append, List.nil_append]
  walk_at "run"
  refine ev_of (need_ok W hN (Sn.of_pl i.pl) i.thing) ?_
  walk_at "run"
  refine ev_of (goes_ok W3 (i.pl.le (by omega))) ?_
  rw [goes_endl]
  unfold endl
  walk_at "run"
  refine ev_of (lean_inf W3 i) ?_
  walk_at "run"
  exact ⟨rfl, rfl⟩
theorem lean_run' (W : WT2 T G) (W3 : WT3 T G) {r : S} (hN : T "need_thing" = some (fn_need_thing r)) (hT : T "lean" = some fn_lean) (w : worthD d = true) : run T G (n + 15) "lean" [d] h = .ok (.dat d) h := by
  refine ev_eq (v_run hT rfl ?_)
  unfold fn_lean
  simp only [Fn.env, List.map_cons, List.map_nil, Nat.reduceSub, List.replicate_succ, List.replicate_zero, List.cons_append, List.nil_append]
  walk_at "run"
  refine ev_of (need_ok W hN (Sn.of_pl (worth_pl w)) (worth_thing w)) ?_
  walk_at "run"
  refine ev_of (goes_ok W3 ((worth_pl w).le (by omega))) ?_
  rw [worth_goes w]
  walk_at "run"
  exact ⟨rfl, rfl⟩
end
end Mi
/-! Mi19: places and parts of rows. -/
namespace Mi
open PySem PySem.Spec PyProof.Rows L2
variable {X : Exc → Hh → Prop}
def fn_at_place : Fn := ⟨2, 4, (.cons (.ifs (.not1 (.call "goes_on" (.cons (.var 0) .nil))) (.cons (.ret (.ix (.var 0) (.var 1))) .nil) .nil) (.cons (.asgs [2, 3] (.sl (.var 0) (.part (.con (.int 1))) .no)) (.cons (.ret (.ite (.cmp .lt (.var 1) (.blt .len (.cons (.var 2) .nil))) (.ix (.var 2) (.var 1)) (.ix (.var 3) (.bin .mod (.bin .sub (.var 1) (.blt .len (.cons (.var 2) .nil))) (.blt .len (.cons (.var 3) .nil)))))) .nil)))⟩
def fn_ahead_of : Fn := ⟨2, 3, (.cons (.ret (.blt .toTuple (.cons (.comp [2] (.nm 2) (.rng1 (.var 1)) (.con (.bl true)) (.call "at_place" (.cons (.var 0) (.cons (.var 2) .nil)))) .nil))) .nil)⟩
def fn_behind : Fn := ⟨2, 5, (.cons (.ifs (.not1 (.call "goes_on" (.cons (.var 0) .nil))) (.cons (.ret (.sl (.var 0) (.part (.var 1)) .no)) .nil) .nil) (.cons (.asgs [2, 3] (.sl (.var 0) (.part (.con (.int 1))) .no)) (.cons (.ifs (.cmp .le (.var 1) (.blt .len (.cons (.var 2) .nil))) (.cons (.ret (.call "leaned" (.cons (.sl (.var 2) (.part (.var 1)) .no) (.cons (.var 3) .nil)))) .nil) .nil) (.cons (.asg 4 (.bin .mod (.bin .sub (.var 1) (.blt .len (.cons (.var 2) .nil))) (.blt .len (.cons (.var 3) .nil)))) (.cons (.ret (.call "leaned" (.cons (.tup .nil) (.cons (.bin .add (.sl (.var 3) (.part (.var 4)) .no) (.sl (.var 3) .no (.part (.var 4)))) .nil)))) .nil)))))⟩
def fn_left_without : Fn := ⟨2, 4, (.cons (.asgs [2, 3] (.tup (.cons (.call "ahead_of" (.cons (.var 0) (.cons (.var 1) .nil))) (.cons (.call "behind" (.cons (.var 0) (.cons (.bin .add (.var 1) (.con (.int 1))) .nil))) .nil)))) (.cons (.ret (.ite (.call "goes_on" (.cons (.var 0) .nil)) (.call "leaned" (.cons (.bin .add (.var 2) (.ix (.var 3) (.con (.int 1)))) (.cons (.ix (.var 3) (.con (.int 2))) .nil))) (.bin .add (.var 2) (.var 3)))) .nil))⟩
def fn_need_row (r : S) : Fn := ⟨1, 1, (.cons (.ifs (.or2 (.not1 (.call "is_thing" (.cons (.var 0) .nil))) (.not1 (.isi (.var 0) .tuple))) (.cons r .nil) .nil) .nil)⟩
def fn_need_number (r : S) : Fn := ⟨3, 3, (.cons (.ifs (.not1 (.call "is_among" (.cons (.var 1) (.cons (.con (.int 0)) (.cons (.ite (.call "goes_on" (.cons (.var 0) .nil)) (.glo "MOST_NUMBER") (.var 2)) .nil))))) (.cons r .nil) .nil) .nil)⟩
def fn_thing_at : Fn := ⟨2, 2, (.cons (.expr (.call "need_row" (.cons (.var 0) .nil))) (.cons (.expr (.call "need_number" (.cons (.var 0) (.cons (.var 1) (.cons (.bin .sub (.blt .len (.cons (.var 0) .nil)) (.con (.int 1))) .nil))))) (.cons (.ret (.call "at_place" (.cons (.var 0) (.cons (.var 1) .nil)))) .nil)))⟩
def fn_things_ahead (r : S) : Fn := ⟨2, 2, (.cons (.expr (.call "need_row" (.cons (.var 0) .nil))) (.cons (.expr (.call "need_number" (.cons (.var 0) (.cons (.var 1) (.cons (.blt .len (.cons (.var 0) .nil)) .nil))))) (.cons (.ifs (.cmp .gt (.var 1) (.glo "MOST_THINGS")) (.cons r .nil) .nil) (.cons (.ret (.call "ahead_of" (.cons (.var 0) (.cons (.var 1) .nil)))) .nil))))⟩
def fn_things_behind : Fn := ⟨2, 2, (.cons (.expr (.call "need_row" (.cons (.var 0) .nil))) (.cons (.expr (.call "need_number" (.cons (.var 0) (.cons (.var 1) (.cons (.blt .len (.cons (.var 0) .nil)) .nil))))) (.cons (.ret (.call "behind" (.cons (.var 0) (.cons (.var 1) .nil)))) .nil)))⟩
def fn_without : Fn := ⟨2, 2, (.cons (.expr (.call "need_row" (.cons (.var 0) .nil))) (.cons (.expr (.call "need_number" (.cons (.var 0) (.cons (.var 1) (.cons (.bin .sub (.blt .len (.cons (.var 0) .nil)) (.con (.int 1))) .nil))))) (.cons (.ret (.call "left_without" (.cons (.var 0) (.cons (.var 1) .nil)))) .nil)))⟩
local macro_rules | `(tactic| walk_at "run") => `(tactic| repeat (first
  | with_reducible refine w_notT ?_ | with_reducible refine w_notF ?_
  | with_reducible refine w_con ?_ | ((with_reducible refine' w_var ?e ?_); case e => rfl)
  | with_reducible refine w_bin ?_ | with_reducible refine w_fzD ?_ | with_reducible refine w_bind ?_ | with_reducible refine w_ok ?_
  | with_reducible refine w_addI ?_ | with_reducible refine w_subI ?_
  | with_reducible refine w_cons ?_ | with_reducible refine w_nil ?_ | with_reducible refine w_call ?_
  | with_reducible refine v_cons ?_ | ((with_reducible refine v_contN ?_); try simp only [setV, List.set_cons_succ, List.set_cons_zero]) | with_reducible refine v_contR ?_ | with_reducible refine v_asg ?_ | with_reducible refine v_ret ?_ | with_reducible refine v_retD ?_ | with_reducible refine v_endR ?_
  | with_reducible refine v_nil ?_ | with_reducible refine v_ifs ?_ | with_reducible refine w_brt ?_ | with_reducible refine w_brf ?_
  | with_reducible refine w_and ?_ | with_reducible refine w_or ?_ | with_reducible refine w_not ?_ | with_reducible refine w_notR ?_ | with_reducible refine w_ite ?_
  | with_reducible refine w_cmp ?_ | with_reducible refine w_chain ?_ | with_reducible refine w_ltI ?_ | with_reducible refine w_leI ?_ | with_reducible refine w_gtI ?_ | with_reducible refine w_geI ?_ | with_reducible refine w_eqI ?_
  | with_reducible refine w_isi ?_ | with_reducible refine w_blt ?_ | with_reducible refine w_ix ?_ | with_reducible refine w_dget ?_
  | ((with_reducible refine' w_modI ?e ?_); case e => (first | decide | omega))
  | ((with_reducible refine' w_fdivI ?e ?_); case e => (first | decide | omega))
  | ((with_reducible refine' w_mulI ?e ?_); case e => (first | exact near_r (by decide) | exact near_l (by decide) | exact near_ro (by omega) (by omega) | exact near_lo (by omega) (by omega)))
  | ((with_reducible refine' w_powI ?e ?_); case e => decide)
  | with_reducible refine w_neg ?_ | with_reducible refine w_negI ?_
  | with_reducible refine w_tup ?_ | with_reducible refine w_lst ?_ | ((with_reducible refine' w_lenR ?e ?_); case e => (first | decide | (simp only [List.length_cons, List.length_nil, Nat.zero_add, Nat.reduceAdd]; decide)))
  | with_reducible refine w_fzN ?_ | ((with_reducible refine' w_glo ?e ?_); case e => (first | assumption | rfl))
  | with_reducible refine w_sl ?_ | with_reducible refine w_ono ?_ | with_reducible refine w_opart ?_ | with_reducible refine w_intR ?_ | with_reducible refine w_strR ?_ | with_reducible refine w_tupR ?_ | with_reducible refine w_newR ?_ | ((with_reducible refine' w_optR ?e ?_); case e => rfl)
  | with_reducible refine w_mth ?_ | with_reducible refine w_comp ?_ | with_reducible refine w_seq ?_ | with_reducible refine w_rng1 ?_ | with_reducible refine w_rng2 ?_ | with_reducible refine w_rng3 ?_ | with_reducible refine w_enum ?_ | ((with_reducible refine' w_rng1R ?e ?_); case e => exact rng_ok1 (by omega) (by omega)) | ((with_reducible refine' w_rngR ?e ?_); case e => exact rng_ok2 (by omega) (by omega) (by omega) (by omega)) | ((with_reducible refine' w_rngD ?e ?_); case e => exact rng_ok2 (by omega) (by omega) (by omega) (by omega))
  | with_reducible refine w_promo ?_ | with_reducible refine w_proN ?_ | with_reducible refine w_proD ?_ | with_reducible refine w_dct ?_ | ((with_reducible refine' w_dctR ?e ?_); case e => decide)
  | with_reducible refine v_own ?_ | with_reducible refine v_any ?_ | with_reducible refine v_anyN ?_ | with_reducible refine v_anyD ?_ | with_reducible refine w_blt1 ?_ | with_reducible refine v_asgs ?_ | with_reducible refine v_setL ?_ | with_reducible refine v_setD ?_ | with_reducible refine v_setOwn ?_ | ((with_reducible refine' v_ownR ?e ?_); case e => rfl)
  | ((with_reducible refine' v_app ?e ?_); case e => rfl) | ((with_reducible refine' v_ext ?e ?_); case e => rfl) | with_reducible refine v_expr ?_ | with_reducible refine v_for ?_ | with_reducible refine v_whl ?_
  | ((with_reducible refine' v_retV ?e ?_); case e => rfl) | with_reducible refine v_retn ?_ | with_reducible refine v_pass ?_ | with_reducible refine v_brk ?_ | with_reducible refine v_cnt ?_ | ((with_reducible refine' v_frz ?e ?_); case e => rfl)
  | with_reducible refine v_contB ?_ | with_reducible refine v_contC ?_ | with_reducible refine v_retN ?_ | with_reducible refine v_endN ?_ | with_reducible refine w_compG ?_
  | ((with_reducible refine' w_varO ?e ?_); case e => rfl)
  | ((with_reducible refine' w_dgetK ?e ?q ?_); (case e => first | assumption | rfl); (case q => rfl); (try dsimp only))
  | with_reducible refine w_lenT ?_ | with_reducible refine w_lenLs ?_ | with_reducible refine w_slT ?_ | with_reducible refine w_slL ?_ | with_reducible refine w_tupN ?_ | with_reducible refine w_seqT ?_ | with_reducible refine w_seqL ?_ | with_reducible refine w_seqN ?_ | with_reducible refine w_intB ?_ | with_reducible refine w_intI ?_ | with_reducible refine w_neI ?_
  | with_reducible refine w_isi_int_non ?_ | with_reducible refine w_isi_int_bl ?_ | with_reducible refine w_isi_int_int ?_ | with_reducible refine w_isi_int_str ?_ | with_reducible refine w_isi_int_tup ?_ | with_reducible refine w_isi_int_lst ?_ | with_reducible refine w_isi_bool_non ?_ | with_reducible refine w_isi_bool_bl ?_ | with_reducible refine w_isi_bool_int ?_ | with_reducible refine w_isi_bool_str ?_ | with_reducible refine w_isi_bool_tup ?_ | with_reducible refine w_isi_bool_lst ?_ | with_reducible refine w_isi_str_non ?_ | with_reducible refine w_isi_str_bl ?_ | with_reducible refine w_isi_str_int ?_ | with_reducible refine w_isi_str_str ?_ | with_reducible refine w_isi_str_tup ?_ | with_reducible refine w_isi_str_lst ?_ | with_reducible refine w_isi_tuple_non ?_ | with_reducible refine w_isi_tuple_bl ?_ | with_reducible refine w_isi_tuple_int ?_ | with_reducible refine w_isi_tuple_str ?_ | with_reducible refine w_isi_tuple_tup ?_ | with_reducible refine w_isi_tuple_lst ?_ | with_reducible refine w_isi_list_non ?_ | with_reducible refine w_isi_list_bl ?_ | with_reducible refine w_isi_list_int ?_ | with_reducible refine w_isi_list_str ?_ | with_reducible refine w_isi_list_tup ?_ | with_reducible refine w_isi_list_lst ?_
  | with_reducible refine w_lrng1 ?_ | with_reducible refine w_lrng2 ?_ | ((with_reducible refine' w_lrngR ?e ?_); case e => (refine ⟨?_, ?_, ?_, ?_, ?_⟩ <;> omega)) | with_reducible refine w_lrngR2 ?_ | with_reducible refine w_max2 ?_ | with_reducible refine w_min2 ?_ | with_reducible refine w_zip ?_ | with_reducible refine w_zipT ?_ | with_reducible refine w_zipL ?_ | with_reducible refine w_zipLN ?_
  | with_reducible refine w_fnv ?_ | with_reducible refine w_isx ?_ | with_reducible refine w_attr ?_ | ((with_reducible refine' w_attrR ?e ?_); case e => rfl) | ((with_reducible refine' w_callv ?e ?_); case e => rfl) | with_reducible refine w_told ?_ | with_reducible refine v_raise ?_
  | ((with_reducible refine' w_ixT ?e ?_); case e => rfl)
  | ((with_reducible refine' w_brd ?e ?_); case e => omega)
  | ((with_reducible refine' w_brn ?e ?_); case e => omega)
  | ((with_reducible refine' w_brnd ?e ?_); case e => omega)
  | ((with_reducible refine' w_brnn ?e ?_); case e => omega)
  | ((with_reducible refine' w_brp ?e ?_); case e => assumption)
  | ((with_reducible refine' w_brq ?e ?_); case e => assumption)))
local macro_rules | `(tactic| walk_at "one") => `(tactic| (first
  | with_reducible refine w_notT ?_ | with_reducible refine w_notF ?_
  | with_reducible refine w_con ?_ | ((with_reducible refine' w_var ?e ?_); case e => rfl)
  | with_reducible refine w_bin ?_ | with_reducible refine w_fzD ?_ | with_reducible refine w_bind ?_ | with_reducible refine w_ok ?_
  | with_reducible refine w_addI ?_ | with_reducible refine w_subI ?_
  | with_reducible refine w_cons ?_ | with_reducible refine w_nil ?_ | with_reducible refine w_call ?_
  | with_reducible refine v_cons ?_ | ((with_reducible refine v_contN ?_); try simp only [setV, List.set_cons_succ, List.set_cons_zero]) | with_reducible refine v_contR ?_ | with_reducible refine v_asg ?_ | with_reducible refine v_ret ?_ | with_reducible refine v_retD ?_ | with_reducible refine v_endR ?_
  | with_reducible refine v_nil ?_ | with_reducible refine v_ifs ?_ | with_reducible refine w_brt ?_ | with_reducible refine w_brf ?_
  | with_reducible refine w_and ?_ | with_reducible refine w_or ?_ | with_reducible refine w_not ?_ | with_reducible refine w_notR ?_ | with_reducible refine w_ite ?_
  | with_reducible refine w_cmp ?_ | with_reducible refine w_chain ?_ | with_reducible refine w_ltI ?_ | with_reducible refine w_leI ?_ | with_reducible refine w_gtI ?_ | with_reducible refine w_geI ?_ | with_reducible refine w_eqI ?_
  | with_reducible refine w_isi ?_ | with_reducible refine w_blt ?_ | with_reducible refine w_ix ?_ | with_reducible refine w_dget ?_
  | ((with_reducible refine' w_modI ?e ?_); case e => (first | decide | omega))
  | ((with_reducible refine' w_fdivI ?e ?_); case e => (first | decide | omega))
  | ((with_reducible refine' w_mulI ?e ?_); case e => (first | exact near_r (by decide) | exact near_l (by decide) | exact near_ro (by omega) (by omega) | exact near_lo (by omega) (by omega)))
  | ((with_reducible refine' w_powI ?e ?_); case e => decide)
  | with_reducible refine w_neg ?_ | with_reducible refine w_negI ?_
  | with_reducible refine w_tup ?_ | with_reducible refine w_lst ?_ | ((with_reducible refine' w_lenR ?e ?_); case e => (first | decide | (simp only [List.length_cons, List.length_nil, Nat.zero_add, Nat.reduceAdd]; decide)))
  | with_reducible refine w_fzN ?_ | ((with_reducible refine' w_glo ?e ?_); case e => (first | assumption | rfl))
  | with_reducible refine w_sl ?_ | with_reducible refine w_ono ?_ | with_reducible refine w_opart ?_ | with_reducible refine w_intR ?_ | with_reducible refine w_strR ?_ | with_reducible refine w_tupR ?_ | with_reducible refine w_newR ?_ | ((with_reducible refine' w_optR ?e ?_); case e => rfl)
  | with_reducible refine w_mth ?_ | with_reducible refine w_comp ?_ | with_reducible refine w_seq ?_ | with_reducible refine w_rng1 ?_ | with_reducible refine w_rng2 ?_ | with_reducible refine w_rng3 ?_ | with_reducible refine w_enum ?_ | ((with_reducible refine' w_rng1R ?e ?_); case e => exact rng_ok1 (by omega) (by omega)) | ((with_reducible refine' w_rngR ?e ?_); case e => exact rng_ok2 (by omega) (by omega) (by omega) (by omega)) | ((with_reducible refine' w_rngD ?e ?_); case e => exact rng_ok2 (by omega) (by omega) (by omega) (by omega))
  | with_reducible refine w_promo ?_ | with_reducible refine w_proN ?_ | with_reducible refine w_proD ?_ | with_reducible refine w_dct ?_ | ((with_reducible refine' w_dctR ?e ?_); case e => decide)
  | with_reducible refine v_own ?_ | with_reducible refine v_any ?_ | with_reducible refine v_anyN ?_ | with_reducible refine v_anyD ?_ | with_reducible refine w_blt1 ?_ | with_reducible refine v_asgs ?_ | with_reducible refine v_setL ?_ | with_reducible refine v_setD ?_ | with_reducible refine v_setOwn ?_ | ((with_reducible refine' v_ownR ?e ?_); case e => rfl)
  | ((with_reducible refine' v_app ?e ?_); case e => rfl) | ((with_reducible refine' v_ext ?e ?_); case e => rfl) | with_reducible refine v_expr ?_ | with_reducible refine v_for ?_ | with_reducible refine v_whl ?_
  | ((with_reducible refine' v_retV ?e ?_); case e => rfl) | with_reducible refine v_retn ?_ | with_reducible refine v_pass ?_ | with_reducible refine v_brk ?_ | with_reducible refine v_cnt ?_ | ((with_reducible refine' v_frz ?e ?_); case e => rfl)
  | with_reducible refine v_contB ?_ | with_reducible refine v_contC ?_ | with_reducible refine v_retN ?_ | with_reducible refine v_endN ?_ | with_reducible refine w_compG ?_
  | ((with_reducible refine' w_varO ?e ?_); case e => rfl)
  | ((with_reducible refine' w_dgetK ?e ?q ?_); (case e => first | assumption | rfl); (case q => rfl); (try dsimp only))
  | with_reducible refine w_lenT ?_ | with_reducible refine w_lenLs ?_ | with_reducible refine w_slT ?_ | with_reducible refine w_slL ?_ | with_reducible refine w_tupN ?_ | with_reducible refine w_seqT ?_ | with_reducible refine w_seqL ?_ | with_reducible refine w_seqN ?_ | with_reducible refine w_intB ?_ | with_reducible refine w_intI ?_ | with_reducible refine w_neI ?_
  | with_reducible refine w_isi_int_non ?_ | with_reducible refine w_isi_int_bl ?_ | with_reducible refine w_isi_int_int ?_ | with_reducible refine w_isi_int_str ?_ | with_reducible refine w_isi_int_tup ?_ | with_reducible refine w_isi_int_lst ?_ | with_reducible refine w_isi_bool_non ?_ | with_reducible refine w_isi_bool_bl ?_ | with_reducible refine w_isi_bool_int ?_ | with_reducible refine w_isi_bool_str ?_ | with_reducible refine w_isi_bool_tup ?_ | with_reducible refine w_isi_bool_lst ?_ | with_reducible refine w_isi_str_non ?_ | with_reducible refine w_isi_str_bl ?_ | with_reducible refine w_isi_str_int ?_ | with_reducible refine w_isi_str_str ?_ | with_reducible refine w_isi_str_tup ?_ | with_reducible refine w_isi_str_lst ?_ | with_reducible refine w_isi_tuple_non ?_ | with_reducible refine w_isi_tuple_bl ?_ | with_reducible refine w_isi_tuple_int ?_ | with_reducible refine w_isi_tuple_str ?_ | with_reducible refine w_isi_tuple_tup ?_ | with_reducible refine w_isi_tuple_lst ?_ | with_reducible refine w_isi_list_non ?_ | with_reducible refine w_isi_list_bl ?_ | with_reducible refine w_isi_list_int ?_ | with_reducible refine w_isi_list_str ?_ | with_reducible refine w_isi_list_tup ?_ | with_reducible refine w_isi_list_lst ?_
  | with_reducible refine w_lrng1 ?_ | with_reducible refine w_lrng2 ?_ | ((with_reducible refine' w_lrngR ?e ?_); case e => (refine ⟨?_, ?_, ?_, ?_, ?_⟩ <;> omega)) | with_reducible refine w_lrngR2 ?_ | with_reducible refine w_max2 ?_ | with_reducible refine w_min2 ?_ | with_reducible refine w_zip ?_ | with_reducible refine w_zipT ?_ | with_reducible refine w_zipL ?_ | with_reducible refine w_zipLN ?_
  | with_reducible refine w_fnv ?_ | with_reducible refine w_isx ?_ | with_reducible refine w_attr ?_ | ((with_reducible refine' w_attrR ?e ?_); case e => rfl) | ((with_reducible refine' w_callv ?e ?_); case e => rfl) | with_reducible refine w_told ?_ | with_reducible refine v_raise ?_
  | ((with_reducible refine' w_ixT ?e ?_); case e => rfl)
  | ((with_reducible refine' w_brd ?e ?_); case e => omega)
  | ((with_reducible refine' w_brn ?e ?_); case e => omega)
  | ((with_reducible refine' w_brnd ?e ?_); case e => omega)
  | ((with_reducible refine' w_brnn ?e ?_); case e => omega)
  | ((with_reducible refine' w_brp ?e ?_); case e => assumption)
  | ((with_reducible refine' w_brq ?e ?_); case e => assumption)))

/-- the thing of a number -/
def stAt (s a : List D) (i : Nat) : D := (strm s a i).getD .non
theorem cyc_some {α : Type} {a : List α} (h : a ≠ []) (i : Nat) : ∃ x, cyc a i = some x ∧ x ∈ a := by
  have hp : 0 < a.length := List.length_pos_iff.mpr h
  have := Nat.mod_lt i hp
  exact ⟨a[i % a.length], List.getElem?_eq_getElem this, List.getElem_mem _⟩
theorem strm_some {α : Type} {s a : List α} (h : a ≠ []) (i : Nat) : ∃ x, strm s a i = some x ∧ (x ∈ s ∨ x ∈ a) := by
  by_cases hi : i < s.length
  · exact ⟨s[i], by rw [strm_lt hi, List.getElem?_eq_getElem hi], .inl (List.getElem_mem _)⟩
  · obtain ⟨x, e, m⟩ := cyc_some h (i - s.length)
    exact ⟨x, by rw [strm_ge (by omega), e], .inr m⟩
theorem stAt_eq {s a : List D} (h : a ≠ []) (i : Nat) : strm s a i = some (stAt s a i) := by
  obtain ⟨x, e, _⟩ := strm_some (s := s) h i
  rw [stAt, e]; rfl
theorem IR.at {s a : List D} (i : IR s a) (k : Nat) : smallD (stAt s a k) = true := by
  obtain ⟨x, e, m⟩ := strm_some (s := s) i.a0 k
  rw [stAt, e]
  exact m.elim (i.ss x) (i.sa x)
/-- the first so many things -/
def ahead (s a : List D) (m : Nat) : List D := (List.range m).map (stAt s a)
def bhS (s : List D) (m : Nat) : List D := if m ≤ s.length then s.drop m else []
def bhA (s a : List D) (m : Nat) : List D := if m ≤ s.length then a else a.drop ((m - s.length) % a.length) ++ a.take ((m - s.length) % a.length)
theorem bh_strm {s a : List D} (h : a ≠ []) (m i : Nat) : strm (bhS s m) (bhA s a m) i = strm s a (m + i) := by
  unfold bhS bhA
  by_cases q : m ≤ s.length
  · rw [if_pos q, if_pos q]; exact strm_drop q i
  · rw [if_neg q, if_neg q]; exact strm_past (List.length_pos_iff.mpr h) (by omega) i
theorem IR.bh {s a : List D} (i : IR s a) (m : Nat) : IR (bhS s m) (bhA s a m) := by
  have hp : 0 < a.length := List.length_pos_iff.mpr i.a0
  unfold bhS bhA
  by_cases q : m ≤ s.length
  · rw [if_pos q, if_pos q]
    exact ⟨by rw [List.length_drop]; have := i.ls; omega, i.la, i.a0, fun x hx => i.ss x (List.mem_of_mem_drop hx), i.sa⟩
  · rw [if_neg q, if_neg q]
    have hm := Nat.mod_lt (m - s.length) hp
    have hl : (a.drop ((m - s.length) % a.length) ++ a.take ((m - s.length) % a.length)).length = a.length := by rw [List.length_append, List.length_drop, List.length_take]; omega
    refine ⟨by simp, by rw [hl]; exact i.la, fun z => ?_, by simp, fun x hx => ?_⟩
    · rw [z] at hl; simp at hl; omega
    · rcases List.mem_append.mp hx with q | q
      · exact i.sa x (List.mem_of_mem_drop q)
      · exact i.sa x (List.mem_of_mem_take q)
structure WT4 (T : Tab) (G : Str → Option D) : Prop extends WT3 T G where
  place : T "at_place" = some fn_at_place
  ahead : T "ahead_of" = some fn_ahead_of
  behind : T "behind" = some fn_behind
section
variable {T : Tab} {G : Str → Option D} {n : Nat} {h : Hh} {d : D}
theorem at_fin (W : WT4 T G) {l : List D} {i : Nat} (p : Pl 50 (.tup l)) (g : goesD (.tup l) = false) (hi : i < l.length) : run T G (n + 2) "at_place" [.tup l, .int (i : Nat)] h = .ok (.dat l[i]) h := by
  refine ev_eq (v_run W.place rfl ?_)
  unfold fn_at_place
  simp only [Fn.env, List.map_cons, List.map_nil, Nat.reduceSub, List.replicate_succ, List.replicate_zero, List.cons_append, List.nil_append]
  walk_at "run"
  refine ev_of (goes_ok W.toWT3 p) ?_
  rw [g]
  walk_at "run"
  refine w_ixT (atI_nat' hi) ?_
  walk_at "run"
  exact ⟨rfl, rfl⟩
theorem cut1 {x y z : D} : cutD [x, y, z] (some 1) none = [y, z] := rfl
theorem at_inf (W : WT4 T G) {s a : List D} (i : IR s a) (k : Nat) : run T G (n + 2) "at_place" [endl s a, .int (k : Nat)] h = .ok (.dat (stAt s a k)) h := by
  have hp : 0 < a.length := List.length_pos_iff.mpr i.a0
  refine ev_eq (v_run W.place rfl ?_)
  unfold fn_at_place
  simp only [Fn.env, List.map_cons, List.map_nil, Nat.reduceSub, List.replicate_succ, List.replicate_zero, List.cons_append, List.nil_append]
  walk_at "run"
  refine ev_of (goes_ok W.toWT3 (i.pl.le (by omega))) ?_
  rw [goes_endl]
  unfold endl
  walk_at "run"
  refine ev_br (fun h1 => ?_) (fun h1 => ?_)
  · have h1 : k < s.length := by have := of_decide_eq_true h1; omega
    walk_at "run"
    refine w_ixT (atI_nat' h1) ?_
    walk_at "run"
    refine ⟨?_, rfl⟩
    rw [stAt, strm_lt h1, List.getElem?_eq_getElem h1]; rfl
  · have h1 : s.length ≤ k := by have := of_decide_eq_false h1; omega
    walk_at "run"
    have e : ((k : Nat) : Int) - (s.length : Nat) = ((k - s.length : Nat) : Int) := by omega
    have e2 : (((k - s.length : Nat) : Int)) % ((a.length : Nat) : Int) = (((k - s.length) % a.length : Nat) : Int) := by simp
    have hm := Nat.mod_lt (k - s.length) hp
    rw [e, e2]
    refine w_ixT (atI_nat' hm) ?_
    walk_at "run"
    refine ⟨?_, rfl⟩
    rw [stAt, strm_ge h1]
    unfold cyc
    rw [List.getElem?_eq_getElem hm]; rfl
theorem ahead_fin (W : WT4 T G) {l : List D} {m : Nat} (p : Pl 50 (.tup l)) (g : goesD (.tup l) = false) (hi : m ≤ l.length) (hm : m ≤ 100) : run T G (n + 3) "ahead_of" [.tup l, .int (m : Nat)] h = .ok (.dat (.tup (l.take m))) h := by
  refine ev_eq (v_run W.ahead rfl ?_)
  unfold fn_ahead_of
  simp only [Fn.env, List.map_cons, List.map_nil, Nat.reduceSub, List.replicate_succ, List.replicate_zero, List.cons_append, List.nil_append]
  walk_at "run"
  rw [Int.toNat_natCast]
  have fact : compR (run T G (n + 2)) G [2] (.nm 2) (.con (.bl true)) (.call "at_place" (.cons (.var 0) (.cons (.var 2) .nil))) [.val (.tup l), .val (.int (m : Nat)), .un] (rngL 0 m) h = .ok (.new ((rngL 0 m).map fun x => match x with | .int i => l[i.toNat]?.getD .non | x => x)) h := by
    unfold compR
    rw [comp_map (fun x => match x with | .int i => l[i.toNat]?.getD .non | x => x) (by rw [sizeLine_eq, rngL_length]; simp only [List.length_nil]; omega) fun x hx => ?_]
    · rw [List.nil_append]
    · obtain ⟨i, hi, rfl⟩ := rngL_mem hx
      refine ev_eq ?_
      show evX _ (compG _ _ _ _ _ h) _
      rw [Int.zero_add]
      walk_at "run"
      refine ev_of (at_fin W p g (show i < l.length by omega)) ?_
      walk_at "run"
      refine ⟨?_, rfl⟩
      show some l[i] = some (l[((i : Nat) : Int).toNat]?.getD .non)
      rw [Int.toNat_natCast, List.getElem?_eq_getElem (by omega)]; rfl
  refine ev_of fact ?_
  walk_at "run"
  refine ⟨?_, rfl⟩
  congr 2
  refine List.ext_getElem? fun i => ?_
  by_cases q : i < m
  · rw [List.getElem?_map, List.getElem?_take_of_lt q]
    unfold rngL
    rw [List.getElem?_map, List.getElem?_range q, List.getElem?_eq_getElem (by omega : i < l.length)]
    simp
    rw [List.getElem?_eq_getElem (by omega : i < l.length)]; rfl
  · rw [List.getElem?_eq_none (by rw [List.length_map, rngL_length]; omega), List.getElem?_eq_none (by rw [List.length_take]; omega)]
theorem ahead_inf (W : WT4 T G) {s a : List D} (i : IR s a) {m : Nat} (hm : m ≤ 100) : run T G (n + 3) "ahead_of" [endl s a, .int (m : Nat)] h = .ok (.dat (.tup (ahead s a m))) h := by
  refine ev_eq (v_run W.ahead rfl ?_)
  unfold fn_ahead_of
  simp only [Fn.env, List.map_cons, List.map_nil, Nat.reduceSub, List.replicate_succ, List.replicate_zero, List.cons_append, List.nil_append]
  walk_at "run"
  rw [Int.toNat_natCast]
  have fact : compR (run T G (n + 2)) G [2] (.nm 2) (.con (.bl true)) (.call "at_place" (.cons (.var 0) (.cons (.var 2) .nil))) [.val (endl s a), .val (.int (m : Nat)), .un] (rngL 0 m) h = .ok (.new ((rngL 0 m).map fun x => match x with | .int i => stAt s a i.toNat | x => x)) h := by
    unfold compR
    rw [comp_map (fun x => match x with | .int i => stAt s a i.toNat | x => x) (by rw [sizeLine_eq, rngL_length]; simp only [List.length_nil]; omega) fun x hx => ?_]
    · rw [List.nil_append]
    · obtain ⟨k, hk, rfl⟩ := rngL_mem hx
      refine ev_eq ?_
      show evX _ (compG _ _ _ _ _ h) _
      rw [Int.zero_add]
      walk_at "run"
      refine ev_of (at_inf W i k) ?_
      walk_at "run"
      exact ⟨rfl, rfl⟩
  refine ev_of fact ?_
  walk_at "run"
  refine ⟨?_, rfl⟩
  congr 2
  unfold rngL ahead
  rw [List.map_map]
  refine List.map_congr_left fun k _ => ?_
  simp
theorem behind_fin (W : WT4 T G) {l : List D} {m : Nat} (p : Pl 50 (.tup l)) (g : goesD (.tup l) = false) : run T G (n + 2) "behind" [.tup l, .int (m : Nat)] h = .ok (.dat (.tup (l.drop m))) h := by
  refine ev_eq (v_run W.behind rfl ?_)
  unfold fn_behind
  simp only [Fn.env, List.map_cons, List.map_nil, Nat.reduceSub, List.replicate_succ, List.replicate_zero, List.cons_append, List.nil_append]
  walk_at "run"
  refine ev_of (goes_ok W.toWT3 p) ?_
  rw [g]
  walk_at "run"
  rw [cut_fromN]
  exact ⟨rfl, rfl⟩
theorem behind_inf (W : WT4 T G) {s a : List D} (i : IR s a) (m : Nat) : run T G (n + 3) "behind" [endl s a, .int (m : Nat)] h = .ok (.dat (lnOf (bhS s m) (bhA s a m))) h := by
  have hp : 0 < a.length := List.length_pos_iff.mpr i.a0
  refine ev_eq (v_run W.behind rfl ?_)
  unfold fn_behind
  simp only [Fn.env, List.map_cons, List.map_nil, Nat.reduceSub, List.replicate_succ, List.replicate_zero, List.cons_append, List.nil_append]
  walk_at "run"
  refine ev_of (goes_ok W.toWT3 (i.pl.le (by omega))) ?_
  rw [goes_endl]
  have ib := i.bh m
  unfold endl
  walk_at "run"
  refine ev_br (fun h1 => ?_) (fun h1 => ?_)
  · have h1 : m ≤ s.length := by have := of_decide_eq_true h1; omega
    walk_at "run"
    rw [cut_fromN]
    have e1 : bhS s m = s.drop m := if_pos h1
    have e2 : bhA s a m = a := if_pos h1
    rw [e1, e2] at ib ⊢
    refine ev_of (lean_inf W.toWT3 ib) ?_
    walk_at "run"
    exact ⟨rfl, rfl⟩
  · have h1 : ¬ m ≤ s.length := by have := of_decide_eq_false h1; omega
    walk_at "run"
    have e : ((m : Nat) : Int) - (s.length : Nat) = ((m - s.length : Nat) : Int) := by omega
    have e2 : (((m - s.length : Nat) : Int)) % ((a.length : Nat) : Int) = (((m - s.length) % a.length : Nat) : Int) := by simp
    rw [e, e2, cut_fromN, cut_toN]
    have la := i.la
    have hm := Nat.mod_lt (m - s.length) hp
    have z : (a.drop ((m - s.length) % a.length)).length + (a.take ((m - s.length) % a.length)).length ≤ big := le_big (by rw [List.length_drop, List.length_take]; omega)
    with_reducible refine w_addT z ?_
    walk_at "run"
    have e3 : bhS s m = [] := if_neg h1
    have e4 : bhA s a m = a.drop ((m - s.length) % a.length) ++ a.take ((m - s.length) % a.length) := if_neg h1
    rw [e3, e4] at ib ⊢
    refine ev_of (lean_inf W.toWT3 ib) ?_
    walk_at "run"
    exact ⟨rfl, rfl⟩
end
/-- a row: worths in a row, or endless -/
inductive Row where
  | fin (l : List D)
  | inf (s a : List D)
def Row.d : Row → D
  | .fin l => .tup l
  | .inf s a => endl s a
def Row.ok : Row → Prop
  | .fin l => worthD (.tup l) = true
  | .inf s a => IR s a
/-- up to which number things may be asked for -/
def Row.len : Row → Nat
  | .fin l => l.length
  | .inf _ _ => 40
def Row.len1 : Row → Nat
  | .fin l => l.length
  | .inf _ _ => 41
def Row.at (r : Row) (i : Nat) : D := match r with
  | .fin l => l[i]?.getD .non
  | .inf s a => stAt s a i
def Row.ahead (r : Row) (m : Nat) : List D := match r with
  | .fin l => l.take m
  | .inf s a => Mi.ahead s a m
noncomputable def Row.lean : Row → Row
  | .fin l => .fin l
  | .inf s a => .inf (leaned s a).1 (leaned s a).2
noncomputable def Row.behind (r : Row) (m : Nat) : Row := match r with
  | .fin l => .fin (l.drop m)
  | .inf s a => (Row.inf (bhS s m) (bhA s a m)).lean
/-- some things ahead of a row -/
noncomputable def Row.join (t : List D) : Row → Row
  | .fin l => .fin (t ++ l)
  | .inf s a => (Row.inf (t ++ s) a).lean
noncomputable def Row.without (r : Row) (i : Nat) : Row := (r.behind (i + 1)).join (r.ahead i)
theorem Row.ok.thing : ∀ {r : Row}, r.ok → thingD r.d = true
  | .fin _, w => worth_thing w
  | .inf _ _, i => IR.thing i
theorem Row.ok.pl : ∀ {r : Row}, r.ok → Pl 8 r.d
  | .fin _, w => (worth_pl w).le (by omega)
  | .inf _ _, i => IR.pl i
theorem Row.ok.goes : ∀ {r : Row}, r.ok → goesD r.d = (match r with | .fin _ => false | .inf _ _ => true)
  | .fin _, w => worth_goes w
  | .inf _ _, _ => goes_endl
theorem row_len {l : List D} (w : worthD (.tup l) = true) : l.length ≤ 10 := (size_row (k := 5) (by simpa [worthD] using w)).1
theorem Row.d_tup : ∀ r : Row, ∃ l, r.d = .tup l ∧ l.length = (match r with | .fin l => l.length | .inf _ _ => 3)
  | .fin l => ⟨l, rfl, rfl⟩
  | .inf s a => ⟨_, rfl, rfl⟩
structure WT5 (T : Tab) (G : Str → Option D) (r1 r2 r3 : S) : Prop extends WT4 T G, WT2 T G where
  left : T "left_without" = some fn_left_without
  nrow : T "need_row" = some (fn_need_row r1)
  nnum : T "need_number" = some (fn_need_number r2)
  at_ : T "thing_at" = some fn_thing_at
  things : T "things_ahead" = some (fn_things_ahead r3)
  back : T "things_behind" = some fn_things_behind
  wout : T "without" = some fn_without
  gNum : G "MOST_NUMBER" = some (.int 40)
section
variable {T : Tab} {G : Str → Option D} {r1 r2 r3 : S} {n : Nat} {h : Hh} {r : Row}
theorem nrow_ok (W : WT5 T G r1 r2 r3) (o : r.ok) : run T G (n + 14) "need_row" [r.d] h = .ok (.dat .non) h := by
  refine ev_eq (v_run W.nrow rfl ?_)
  unfold fn_need_row
  simp only [Fn.env, List.map_cons, List.map_nil, Nat.reduceSub, List.replicate_succ, List.replicate_zero, List.cons_append, List.nil_append]
  walk_at "run"
  refine ev_of (thing_ok W.toWT2 (Sn.of_pl o.pl)) ?_
  rw [o.thing]
  obtain ⟨l, e, _⟩ := r.d_tup
  rw [e]
  walk_at "run"
  exact ⟨rfl, rfl⟩
theorem among_int {a b i : Int} : Mi.among a b (.int i) = (decide (a ≤ i) && decide (i ≤ b)) := rfl
theorem nnum_ok (W : WT5 T G r1 r2 r3) (o : r.ok) {k : Nat} {m : Int} (hk : (k : Int) ≤ (match r with | .fin _ => m | .inf _ _ => 40)) : run T G (n + 3) "need_number" [r.d, .int (k : Nat), .int m] h = .ok (.dat .non) h := by
  have g1 := W.gNum
  refine ev_eq (v_run W.nnum rfl ?_)
  unfold fn_need_number
  simp only [Fn.env, List.map_cons, List.map_nil, Nat.reduceSub, List.replicate_succ, List.replicate_zero, List.cons_append, List.nil_append]
  walk_at "run"
  refine ev_of (goes_ok W.toWT3 (o.pl.le (by omega))) ?_
  rw [o.goes]
  cases r with
  | fin l =>
    walk_at "run"
    refine ev_of (among_ok W.whole W.among rfl) ?_
    rw [among_int, decide_eq_true (by omega : (0 : Int) ≤ (k : Nat)), decide_eq_true hk]
    walk_at "run"
    exact ⟨rfl, rfl⟩
  | inf s a =>
    walk_at "run"
    refine ev_of (among_ok W.whole W.among rfl) ?_
    rw [among_int, decide_eq_true (by omega : (0 : Int) ≤ (k : Nat)), decide_eq_true hk]
    walk_at "run"
    exact ⟨rfl, rfl⟩
theorem at_row (W : WT5 T G r1 r2 r3) (o : r.ok) {k : Nat} (hk : k < r.len1) : run T G (n + 2) "at_place" [r.d, .int (k : Nat)] h = .ok (.dat (r.at k)) h := by
  cases r with
  | fin l =>
    have hk : k < l.length := hk
    show run T G (n + 2) "at_place" [.tup l, .int (k : Nat)] h = .ok (.dat (l[k]?.getD .non)) h
    rw [List.getElem?_eq_getElem hk]
    exact at_fin W.toWT4 ((worth_pl o).le (by omega)) (worth_goes o) hk
  | inf s a => exact at_inf W.toWT4 o k
theorem ahead_row (W : WT5 T G r1 r2 r3) (o : r.ok) {k : Nat} (hk : k ≤ r.len) : run T G (n + 3) "ahead_of" [r.d, .int (k : Nat)] h = .ok (.dat (.tup (r.ahead k))) h := by
  cases r with
  | fin l =>
    have hk : k ≤ l.length := hk
    have := row_len o
    exact ahead_fin W.toWT4 ((worth_pl o).le (by omega)) (worth_goes o) hk (by omega)
  | inf s a => exact ahead_inf W.toWT4 o (Nat.le_trans hk (show 40 ≤ 100 by omega))
theorem behind_row (W : WT5 T G r1 r2 r3) (o : r.ok) (k : Nat) : run T G (n + 3) "behind" [r.d, .int (k : Nat)] h = .ok (.dat (r.behind k).d) h := by
  cases r with
  | fin l => exact behind_fin W.toWT4 ((worth_pl o).le (by omega)) (worth_goes o)
  | inf s a => exact behind_inf W.toWT4 o k
theorem ahead_len {s a : List D} {m : Nat} : (Mi.ahead s a m).length = m := by simp [Mi.ahead]
theorem ahead_small {s a : List D} (i : IR s a) {m : Nat} : ∀ x ∈ Mi.ahead s a m, smallD x = true := fun x hx => by
  obtain ⟨k, _, rfl⟩ := List.mem_map.mp hx
  exact i.at k
theorem left_row (W : WT5 T G r1 r2 r3) (o : r.ok) {k : Nat} (hk : k < r.len1) : run T G (n + 4) "left_without" [r.d, .int (k : Nat)] h = .ok (.dat (r.without k).d) h := by
  have hk' : k ≤ r.len := by cases r with
    | fin l => exact Nat.le_of_lt hk
    | inf s a => exact Nat.le_of_lt_succ hk
  refine ev_eq (v_run W.left rfl ?_)
  unfold fn_left_without
  simp only [Fn.env, List.map_cons, List.map_nil, Nat.reduceSub, List.replicate_succ, List.replicate_zero, List.cons_append, List.nil_append]
  walk_at "run"
  refine ev_of (ahead_row W o hk') ?_
  walk_at "run"
  rw [show ((k : Nat) : Int) + 1 = ((k + 1 : Nat) : Int) by omega]
  refine ev_of (behind_row W o (k + 1)) ?_
  walk_at "run"
  refine ev_of (goes_ok W.toWT3 (o.pl.le (by omega))) ?_
  rw [o.goes]
  cases r with
  | fin l =>
    have hl := row_len o
    walk_at "run"
    show evX _ (Res.of h (binF h .add (.dat (.tup (l.take k))) (.dat (.tup (l.drop (k + 1)))))) _
    have z : (l.take k).length + (l.drop (k + 1)).length ≤ big := le_big (by rw [List.length_take, List.length_drop]; omega)
    with_reducible refine w_addT z ?_
    walk_at "run"
    exact ⟨rfl, rfl⟩
  | inf s a =>
    have hk : k < 41 := hk
    have o : IR s a := o
    have ib := (o.bh (k + 1)).lean
    show evX _ (brR (.dat (.bl true)) (evalE _ _ _ [_, _, .val (.tup (Mi.ahead s a k)), .val (endl (leaned (bhS s (k + 1)) (bhA s a (k + 1))).1 (leaned (bhS s (k + 1)) (bhA s a (k + 1))).2)] _) _) _
    unfold endl
    walk_at "run"
    have z : (Mi.ahead s a k).length + (leaned (bhS s (k + 1)) (bhA s a (k + 1))).1.length ≤ big := le_big (by rw [ahead_len]; have := ib.ls; omega)
    with_reducible refine w_addT z ?_
    walk_at "run"
    refine ev_of (leaned_run W.toWT3 (fun x hx => ?_) (fun x hx => (small_pl (ib.sa x hx)).le (by omega)) ?_ ?_ ib.a0) ?_
    · rcases List.mem_append.mp hx with q | q
      · exact (small_pl (ahead_small o x q)).le (by omega)
      · exact (small_pl (ib.ss x q)).le (by omega)
    · rw [List.length_append, ahead_len]; have := ib.ls; omega
    · have := ib.la; omega
    walk_at "run"
    exact ⟨rfl, rfl⟩
theorem thing_at_ok (W : WT5 T G r1 r2 r3) (o : r.ok) {k : Nat} (hk : k < r.len1) : run T G (n + 15) "thing_at" [r.d, .int (k : Nat)] h = .ok (.dat (r.at k)) h := by
  refine ev_eq (v_run W.at_ rfl ?_)
  unfold fn_thing_at
  simp only [Fn.env, List.map_cons, List.map_nil, Nat.reduceSub, List.replicate_succ, List.replicate_zero, List.cons_append, List.nil_append]
  walk_at "run"
  refine ev_of (nrow_ok W o) ?_
  obtain ⟨l, e, hl⟩ := r.d_tup
  walk_at "run"
  rw [e]
  walk_at "run"
  rw [← e]
  refine ev_of (nnum_ok W o ?_) ?_
  · cases r with
    | fin l' => have hk : k < l'.length := hk; show (k : Int) ≤ (l.length : Nat) - 1; simp only at hl; omega
    | inf s a => have hk : k < 41 := hk; show (k : Int) ≤ 40; omega
  walk_at "run"
  refine ev_of (at_row W o hk) ?_
  walk_at "run"
  exact ⟨rfl, rfl⟩
theorem things_ahead_ok (W : WT5 T G r1 r2 r3) (o : r.ok) {k : Nat} (hk : k ≤ r.len) (h10 : k ≤ 10) : run T G (n + 15) "things_ahead" [r.d, .int (k : Nat)] h = .ok (.dat (.tup (r.ahead k))) h := by
  have g1 := W.gThings
  refine ev_eq (v_run W.things rfl ?_)
  unfold fn_things_ahead
  simp only [Fn.env, List.map_cons, List.map_nil, Nat.reduceSub, List.replicate_succ, List.replicate_zero, List.cons_append, List.nil_append]
  walk_at "run"
  refine ev_of (nrow_ok W o) ?_
  obtain ⟨l, e, hl⟩ := r.d_tup
  walk_at "run"
  rw [e]
  walk_at "run"
  rw [← e]
  refine ev_of (nnum_ok W o ?_) ?_
  · cases r with
    | fin l' => have hk : k ≤ l'.length := hk; show (k : Int) ≤ (l.length : Nat); simp only at hl; omega
    | inf s a => have hk : k ≤ 40 := hk; show (k : Int) ≤ 40; omega
  walk_at "run"
  refine ev_of (ahead_row W o hk) ?_
  walk_at "run"
  exact ⟨rfl, rfl⟩
theorem things_behind_ok (W : WT5 T G r1 r2 r3) (o : r.ok) {k : Nat} (hk : k ≤ r.len) : run T G (n + 15) "things_behind" [r.d, .int (k : Nat)] h = .ok (.dat (r.behind k).d) h := by
  refine ev_eq (v_run W.back rfl ?_)
  unfold fn_things_behind
  simp only [Fn.env, List.map_cons, List.map_nil, Nat.reduceSub, List.replicate_succ, List.replicate_zero, List.cons_append, List.nil_append]
  walk_at "run"
  refine ev_of (nrow_ok W o) ?_
  obtain ⟨l, e, hl⟩ := r.d_tup
  walk_at "run"
  rw [e]
  walk_at "run"
  rw [← e]
  refine ev_of (nnum_ok W o ?_) ?_
  · cases r with
    | fin l' => have hk : k ≤ l'.length := hk; show (k : Int) ≤ (l.length : Nat); simp only at hl; omega
    | inf s a => have hk : k ≤ 40 := hk; show (k : Int) ≤ 40; omega
  walk_at "run"
  refine ev_of (behind_row W o k) ?_
  walk_at "run"
  exact ⟨rfl, rfl⟩
theorem without_ok (W : WT5 T G r1 r2 r3) (o : r.ok) {k : Nat} (hk : k < r.len1) : run T G (n + 15) "without" [r.d, .int (k : Nat)] h = .ok (.dat (r.without k).d) h := by
  refine ev_eq (v_run W.wout rfl ?_)
  unfold fn_without
  simp only [Fn.env, List.map_cons, List.map_nil, Nat.reduceSub, List.replicate_succ, List.replicate_zero, List.cons_append, List.nil_append]
  walk_at "run"
  refine ev_of (nrow_ok W o) ?_
  obtain ⟨l, e, hl⟩ := r.d_tup
  walk_at "run"
  rw [e]
  walk_at "run"
  rw [← e]
  refine ev_of (nnum_ok W o ?_) ?_
  · cases r with
    | fin l' => have hk : k < l'.length := hk; show (k : Int) ≤ (l.length : Nat) - 1; simp only at hl; omega
    | inf s a => have hk : k < 41 := hk; show (k : Int) ≤ 40; omega
  walk_at "run"
  refine ev_of (left_row W o hk) ?_
  walk_at "run"
  exact ⟨rfl, rfl⟩
end
end Mi
/-! Mi20: leaves, worths, rows, endless rows drawn. -/
namespace Mi
open PySem PySem.Spec PyProof.Rows L2
variable {X : Exc → Hh → Prop}
def fn__law_leaf : Fn := ⟨1, 1, (.cons (.ret (.ix (.lst (.cons (.con (.int 0)) (.cons (.con (.int 1)) (.cons (.con (.int 2)) (.cons (.con (.int 1)) (.cons (.con (.int 2)) (.cons (.con (.int 5)) (.cons (.con (.int 99)) (.cons (.call "_law_draw" (.cons (.var 0) (.cons (.con (.int 100)) .nil))) .nil))))))))) (.call "_law_draw" (.cons (.var 0) (.cons (.con (.int 8)) .nil))))) .nil)⟩
def fn__law_worth : Fn := ⟨3, 7, (.cons (.asgs [3, 4] (.tup (.cons (.call "_law_draw" (.cons (.var 0) (.cons (.con (.int 3)) .nil))) (.cons (.call "_law_draw" (.cons (.var 0) (.cons (.con (.int 5)) .nil))) .nil)))) (.cons (.setL (.var 2) (.con (.int 0)) (.bin .sub (.ix (.var 2) (.con (.int 0))) (.con (.int 1)))) (.cons (.ifs (.or2 (.cmp .lt (.var 1) (.con (.int 2))) (.or2 (.cmp .lt (.ix (.var 2) (.con (.int 0))) (.con (.int 1))) (.cmp .eq (.var 3) (.con (.int 0))))) (.cons (.ret (.ite (.cmp .eq (.var 4) (.con (.int 4))) (.tup .nil) (.call "_law_leaf" (.cons (.var 0) .nil)))) .nil) .nil) (.cons (.own 5 (.lst .nil)) (.cons (.for' (.nm 6) (.rng1 (.var 4)) (.cons (.ifs (.cmp .gt (.ix (.var 2) (.con (.int 0))) (.con (.int 0))) (.cons (.app 5 (.call "_law_worth" (.cons (.var 0) (.cons (.bin .sub (.var 1) (.con (.int 1))) (.cons (.var 2) .nil))))) .nil) .nil) .nil)) (.cons (.frz 5) (.cons (.ret (.blt .toTuple (.cons (.var 5) .nil))) .nil)))))))⟩
def fn__law_row : Fn := ⟨2, 4, (.cons (.asg 2 (.lst (.cons (.call "_law_draw" (.cons (.var 0) (.cons (.con (.int 3)) .nil))) (.cons (.call "_law_draw" (.cons (.var 0) (.cons (.con (.int 3)) .nil))) (.cons (.con (.int 5)) (.cons (.tup (.cons (.con (.int 1)) .nil)) (.cons (.tup .nil) (.cons (.tup (.cons (.con (.int 1)) (.cons (.con (.int 2)) .nil))) (.cons (.tup (.cons (.con (.int 2)) (.cons (.con (.int 1)) .nil))) (.cons (.call "_law_leaf" (.cons (.var 0) .nil)) .nil)))))))))) (.cons (.ret (.blt .toTuple (.cons (.comp [3] (.nm 3) (.rng1 (.call "_law_draw" (.cons (.var 0) (.cons (.bin .add (.var 1) (.con (.int 1))) .nil)))) (.con (.bl true)) (.ix (.var 2) (.call "_law_draw" (.cons (.var 0) (.cons (.ix (.lst (.cons (.con (.int 3)) (.cons (.con (.int 4)) (.cons (.con (.int 8)) .nil)))) (.call "_law_draw" (.cons (.var 0) (.cons (.con (.int 3)) .nil)))) .nil))))) .nil))) .nil))⟩
def fn__law_endless : Fn := ⟨2, 4, (.cons (.asgs [2, 3] (.tup (.cons (.call "_law_row" (.cons (.var 0) (.cons (.var 1) .nil))) (.cons (.bin .add (.call "_law_row" (.cons (.var 0) (.cons (.con (.int 3)) .nil))) (.tup (.cons (.call "_law_draw" (.cons (.var 0) (.cons (.con (.int 3)) .nil))) .nil))) .nil)))) (.cons (.asg 3 (.bin .mul (.var 3) (.ix (.lst (.cons (.con (.int 1)) (.cons (.con (.int 1)) (.cons (.con (.int 2)) .nil)))) (.call "_law_draw" (.cons (.var 0) (.cons (.con (.int 3)) .nil)))))) (.cons (.ret (.tup (.cons (.con (.str "endless")) (.cons (.bin .add (.var 2) (.bin .mul (.sl (.var 3) .no (.part (.call "_law_draw" (.cons (.var 0) (.cons (.bin .add (.blt .len (.cons (.var 3) .nil)) (.con (.int 1))) .nil))))) (.blt .toInt (.cons (.cmp .eq (.call "_law_draw" (.cons (.var 0) (.cons (.con (.int 3)) .nil))) (.con (.int 0))) .nil)))) (.cons (.var 3) .nil))))) .nil)))⟩
local macro_rules | `(tactic| walk_at "run") => `(tactic| repeat (first
  | with_reducible refine w_notT ?_ | with_reducible refine w_notF ?_
  | with_reducible refine w_con ?_ | ((with_reducible refine' w_var ?e ?_); case e => rfl)
  | with_reducible refine w_bin ?_ | with_reducible refine w_fzD ?_ | with_reducible refine w_bind ?_ | with_reducible refine w_ok ?_
  | with_reducible refine w_addI ?_ | with_reducible refine w_subI ?_
  | with_reducible refine w_cons ?_ | with_reducible refine w_nil ?_ | with_reducible refine w_call ?_
  | with_reducible refine v_cons ?_ | ((with_reducible refine v_contN ?_); try simp only [setV, List.set_cons_succ, List.set_cons_zero]) | with_reducible refine v_contR ?_ | with_reducible refine v_asg ?_ | with_reducible refine v_ret ?_ | with_reducible refine v_retD ?_ | with_reducible refine v_endR ?_
  | with_reducible refine v_nil ?_ | with_reducible refine v_ifs ?_ | with_reducible refine w_brt ?_ | with_reducible refine w_brf ?_
  | with_reducible refine w_and ?_ | with_reducible refine w_or ?_ | with_reducible refine w_not ?_ | with_reducible refine w_notR ?_ | with_reducible refine w_ite ?_
  | with_reducible refine w_cmp ?_ | with_reducible refine w_chain ?_ | with_reducible refine w_ltI ?_ | with_reducible refine w_leI ?_ | with_reducible refine w_gtI ?_ | with_reducible refine w_geI ?_ | with_reducible refine w_eqI ?_
  | with_reducible refine w_isi ?_ | with_reducible refine w_blt ?_ | with_reducible refine w_ix ?_ | with_reducible refine w_dget ?_
  | ((with_reducible refine' w_modI ?e ?_); case e => (first | decide | omega))
  | ((with_reducible refine' w_fdivI ?e ?_); case e => (first | decide | omega))
  | ((with_reducible refine' w_mulI ?e ?_); case e => (first | exact near_r (by decide) | exact near_l (by decide) | exact near_ro (by omega) (by omega) | exact near_lo (by omega) (by omega)))
  | ((with_reducible refine' w_powI ?e ?_); case e => decide)
  | with_reducible refine w_neg ?_ | with_reducible refine w_negI ?_
  | with_reducible refine w_tup ?_ | with_reducible refine w_lst ?_ | ((with_reducible refine' w_lenR ?e ?_); case e => (first | decide | (simp only [List.length_cons, List.length_nil, Nat.zero_add, Nat.reduceAdd]; decide)))
  | with_reducible refine w_fzN ?_ | ((with_reducible refine' w_glo ?e ?_); case e => (first | assumption | rfl))
  | with_reducible refine w_sl ?_ | with_reducible refine w_ono ?_ | with_reducible refine w_opart ?_ | with_reducible refine w_intR ?_ | with_reducible refine w_strR ?_ | with_reducible refine w_tupR ?_ | with_reducible refine w_newR ?_ | ((with_reducible refine' w_optR ?e ?_); case e => rfl)
  | with_reducible refine w_mth ?_ | with_reducible refine w_comp ?_ | with_reducible refine w_seq ?_ | with_reducible refine w_rng1 ?_ | with_reducible refine w_rng2 ?_ | with_reducible refine w_rng3 ?_ | with_reducible refine w_enum ?_ | ((with_reducible refine' w_rng1R ?e ?_); case e => exact rng_ok1 (by omega) (by omega)) | ((with_reducible refine' w_rngR ?e ?_); case e => exact rng_ok2 (by omega) (by omega) (by omega) (by omega)) | ((with_reducible refine' w_rngD ?e ?_); case e => exact rng_ok2 (by omega) (by omega) (by omega) (by omega))
  | with_reducible refine w_promo ?_ | with_reducible refine w_proN ?_ | with_reducible refine w_proD ?_ | with_reducible refine w_dct ?_ | ((with_reducible refine' w_dctR ?e ?_); case e => decide)
  | with_reducible refine v_own ?_ | with_reducible refine v_any ?_ | with_reducible refine v_anyN ?_ | with_reducible refine v_anyD ?_ | with_reducible refine w_blt1 ?_ | with_reducible refine v_asgs ?_ | with_reducible refine v_setL ?_ | with_reducible refine v_setD ?_ | with_reducible refine v_setOwn ?_ | ((with_reducible refine' v_ownR ?e ?_); case e => rfl)
  | ((with_reducible refine' v_app ?e ?_); case e => rfl) | ((with_reducible refine' v_ext ?e ?_); case e => rfl) | with_reducible refine v_expr ?_ | with_reducible refine v_for ?_ | with_reducible refine v_whl ?_
  | ((with_reducible refine' v_retV ?e ?_); case e => rfl) | with_reducible refine v_retn ?_ | with_reducible refine v_pass ?_ | with_reducible refine v_brk ?_ | with_reducible refine v_cnt ?_ | ((with_reducible refine' v_frz ?e ?_); case e => rfl)
  | with_reducible refine v_contB ?_ | with_reducible refine v_contC ?_ | with_reducible refine v_retN ?_ | with_reducible refine v_endN ?_ | with_reducible refine w_compG ?_
  | ((with_reducible refine' w_varO ?e ?_); case e => rfl)
  | ((with_reducible refine' w_dgetK ?e ?q ?_); (case e => first | assumption | rfl); (case q => rfl); (try dsimp only))
  | with_reducible refine w_lenT ?_ | with_reducible refine w_lenLs ?_ | with_reducible refine w_slT ?_ | with_reducible refine w_slL ?_ | with_reducible refine w_tupN ?_ | with_reducible refine w_seqT ?_ | with_reducible refine w_seqL ?_ | with_reducible refine w_seqN ?_ | with_reducible refine w_intB ?_ | with_reducible refine w_intI ?_ | with_reducible refine w_neI ?_
  | with_reducible refine w_isi_int_non ?_ | with_reducible refine w_isi_int_bl ?_ | with_reducible refine w_isi_int_int ?_ | with_reducible refine w_isi_int_str ?_ | with_reducible refine w_isi_int_tup ?_ | with_reducible refine w_isi_int_lst ?_ | with_reducible refine w_isi_bool_non ?_ | with_reducible refine w_isi_bool_bl ?_ | with_reducible refine w_isi_bool_int ?_ | with_reducible refine w_isi_bool_str ?_ | with_reducible refine w_isi_bool_tup ?_ | with_reducible refine w_isi_bool_lst ?_ | with_reducible refine w_isi_str_non ?_ | with_reducible refine w_isi_str_bl ?_ | with_reducible refine w_isi_str_int ?_ | with_reducible refine w_isi_str_str ?_ | with_reducible refine w_isi_str_tup ?_ | with_reducible refine w_isi_str_lst ?_ | with_reducible refine w_isi_tuple_non ?_ | with_reducible refine w_isi_tuple_bl ?_ | with_reducible refine w_isi_tuple_int ?_ | with_reducible refine w_isi_tuple_str ?_ | with_reducible refine w_isi_tuple_tup ?_ | with_reducible refine w_isi_tuple_lst ?_ | with_reducible refine w_isi_list_non ?_ | with_reducible refine w_isi_list_bl ?_ | with_reducible refine w_isi_list_int ?_ | with_reducible refine w_isi_list_str ?_ | with_reducible refine w_isi_list_tup ?_ | with_reducible refine w_isi_list_lst ?_
  | with_reducible refine w_lrng1 ?_ | with_reducible refine w_lrng2 ?_ | ((with_reducible refine' w_lrngR ?e ?_); case e => (refine ⟨?_, ?_, ?_, ?_, ?_⟩ <;> omega)) | with_reducible refine w_lrngR2 ?_ | with_reducible refine w_max2 ?_ | with_reducible refine w_min2 ?_ | with_reducible refine w_zip ?_ | with_reducible refine w_zipT ?_ | with_reducible refine w_zipL ?_ | with_reducible refine w_zipLN ?_
  | with_reducible refine w_fnv ?_ | with_reducible refine w_isx ?_ | with_reducible refine w_attr ?_ | ((with_reducible refine' w_attrR ?e ?_); case e => rfl) | ((with_reducible refine' w_callv ?e ?_); case e => rfl) | with_reducible refine w_told ?_ | with_reducible refine v_raise ?_
  | ((with_reducible refine' w_ixT ?e ?_); case e => rfl)
  | ((with_reducible refine' w_brd ?e ?_); case e => omega)
  | ((with_reducible refine' w_brn ?e ?_); case e => omega)
  | ((with_reducible refine' w_brnd ?e ?_); case e => omega)
  | ((with_reducible refine' w_brnn ?e ?_); case e => omega)
  | ((with_reducible refine' w_brp ?e ?_); case e => assumption)
  | ((with_reducible refine' w_brq ?e ?_); case e => assumption)))
local macro_rules | `(tactic| walk_at "one") => `(tactic| (first
  | with_reducible refine w_notT ?_ | with_reducible refine w_notF ?_
  | with_reducible refine w_con ?_ | ((with_reducible refine' w_var ?e ?_); case e => rfl)
  | with_reducible refine w_bin ?_ | with_reducible refine w_fzD ?_ | with_reducible refine w_bind ?_ | with_reducible refine w_ok ?_
  | with_reducible refine w_addI ?_ | with_reducible refine w_subI ?_
  | with_reducible refine w_cons ?_ | with_reducible refine w_nil ?_ | with_reducible refine w_call ?_
  | with_reducible refine v_cons ?_ | ((with_reducible refine v_contN ?_); try simp only [setV, List.set_cons_succ, List.set_cons_zero]) | with_reducible refine v_contR ?_ | with_reducible refine v_asg ?_ | with_reducible refine v_ret ?_ | with_reducible refine v_retD ?_ | with_reducible refine v_endR ?_
  | with_reducible refine v_nil ?_ | with_reducible refine v_ifs ?_ | with_reducible refine w_brt ?_ | with_reducible refine w_brf ?_
  | with_reducible refine w_and ?_ | with_reducible refine w_or ?_ | with_reducible refine w_not ?_ | with_reducible refine w_notR ?_ | with_reducible refine w_ite ?_
  | with_reducible refine w_cmp ?_ | with_reducible refine w_chain ?_ | with_reducible refine w_ltI ?_ | with_reducible refine w_leI ?_ | with_reducible refine w_gtI ?_ | with_reducible refine w_geI ?_ | with_reducible refine w_eqI ?_
  | with_reducible refine w_isi ?_ | with_reducible refine w_blt ?_ | with_reducible refine w_ix ?_ | with_reducible refine w_dget ?_
  | ((with_reducible refine' w_modI ?e ?_); case e => (first | decide | omega))
  | ((with_reducible refine' w_fdivI ?e ?_); case e => (first | decide | omega))
  | ((with_reducible refine' w_mulI ?e ?_); case e => (first | exact near_r (by decide) | exact near_l (by decide) | exact near_ro (by omega) (by omega) | exact near_lo (by omega) (by omega)))
  | ((with_reducible refine' w_powI ?e ?_); case e => decide)
  | with_reducible refine w_neg ?_ | with_reducible refine w_negI ?_
  | with_reducible refine w_tup ?_ | with_reducible refine w_lst ?_ | ((with_reducible refine' w_lenR ?e ?_); case e => (first | decide | (simp only [List.length_cons, List.length_nil, Nat.zero_add, Nat.reduceAdd]; decide)))
  | with_reducible refine w_fzN ?_ | ((with_reducible refine' w_glo ?e ?_); case e => (first | assumption | rfl))
  | with_reducible refine w_sl ?_ | with_reducible refine w_ono ?_ | with_reducible refine w_opart ?_ | with_reducible refine w_intR ?_ | with_reducible refine w_strR ?_ | with_reducible refine w_tupR ?_ | with_reducible refine w_newR ?_ | ((with_reducible refine' w_optR ?e ?_); case e => rfl)
  | with_reducible refine w_mth ?_ | with_reducible refine w_comp ?_ | with_reducible refine w_seq ?_ | with_reducible refine w_rng1 ?_ | with_reducible refine w_rng2 ?_ | with_reducible refine w_rng3 ?_ | with_reducible refine w_enum ?_ | ((with_reducible refine' w_rng1R ?e ?_); case e => exact rng_ok1 (by omega) (by omega)) | ((with_reducible refine' w_rngR ?e ?_); case e => exact rng_ok2 (by omega) (by omega) (by omega) (by omega)) | ((with_reducible refine' w_rngD ?e ?_); case e => exact rng_ok2 (by omega) (by omega) (by omega) (by omega))
  | with_reducible refine w_promo ?_ | with_reducible refine w_proN ?_ | with_reducible refine w_proD ?_ | with_reducible refine w_dct ?_ | ((with_reducible refine' w_dctR ?e ?_); case e => decide)
  | with_reducible refine v_own ?_ | with_reducible refine v_any ?_ | with_reducible refine v_anyN ?_ | with_reducible refine v_anyD ?_ | with_reducible refine w_blt1 ?_ | with_reducible refine v_asgs ?_ | with_reducible refine v_setL ?_ | with_reducible refine v_setD ?_ | with_reducible refine v_setOwn ?_ | ((with_reducible refine' v_ownR ?e ?_); case e => rfl)
  | ((with_reducible refine' v_app ?e ?_); case e => rfl) | ((with_reducible refine' v_ext ?e ?_); case e => rfl) | with_reducible refine v_expr ?_ | with_reducible refine v_for ?_ | with_reducible refine v_whl ?_
  | ((with_reducible refine' v_retV ?e ?_); case e => rfl) | with_reducible refine v_retn ?_ | with_reducible refine v_pass ?_ | with_reducible refine v_brk ?_ | with_reducible refine v_cnt ?_ | ((with_reducible refine' v_frz ?e ?_); case e => rfl)
  | with_reducible refine v_contB ?_ | with_reducible refine v_contC ?_ | with_reducible refine v_retN ?_ | with_reducible refine v_endN ?_ | with_reducible refine w_compG ?_
  | ((with_reducible refine' w_varO ?e ?_); case e => rfl)
  | ((with_reducible refine' w_dgetK ?e ?q ?_); (case e => first | assumption | rfl); (case q => rfl); (try dsimp only))
  | with_reducible refine w_lenT ?_ | with_reducible refine w_lenLs ?_ | with_reducible refine w_slT ?_ | with_reducible refine w_slL ?_ | with_reducible refine w_tupN ?_ | with_reducible refine w_seqT ?_ | with_reducible refine w_seqL ?_ | with_reducible refine w_seqN ?_ | with_reducible refine w_intB ?_ | with_reducible refine w_intI ?_ | with_reducible refine w_neI ?_
  | with_reducible refine w_isi_int_non ?_ | with_reducible refine w_isi_int_bl ?_ | with_reducible refine w_isi_int_int ?_ | with_reducible refine w_isi_int_str ?_ | with_reducible refine w_isi_int_tup ?_ | with_reducible refine w_isi_int_lst ?_ | with_reducible refine w_isi_bool_non ?_ | with_reducible refine w_isi_bool_bl ?_ | with_reducible refine w_isi_bool_int ?_ | with_reducible refine w_isi_bool_str ?_ | with_reducible refine w_isi_bool_tup ?_ | with_reducible refine w_isi_bool_lst ?_ | with_reducible refine w_isi_str_non ?_ | with_reducible refine w_isi_str_bl ?_ | with_reducible refine w_isi_str_int ?_ | with_reducible refine w_isi_str_str ?_ | with_reducible refine w_isi_str_tup ?_ | with_reducible refine w_isi_str_lst ?_ | with_reducible refine w_isi_tuple_non ?_ | with_reducible refine w_isi_tuple_bl ?_ | with_reducible refine w_isi_tuple_int ?_ | with_reducible refine w_isi_tuple_str ?_ | with_reducible refine w_isi_tuple_tup ?_ | with_reducible refine w_isi_tuple_lst ?_ | with_reducible refine w_isi_list_non ?_ | with_reducible refine w_isi_list_bl ?_ | with_reducible refine w_isi_list_int ?_ | with_reducible refine w_isi_list_str ?_ | with_reducible refine w_isi_list_tup ?_ | with_reducible refine w_isi_list_lst ?_
  | with_reducible refine w_lrng1 ?_ | with_reducible refine w_lrng2 ?_ | ((with_reducible refine' w_lrngR ?e ?_); case e => (refine ⟨?_, ?_, ?_, ?_, ?_⟩ <;> omega)) | with_reducible refine w_lrngR2 ?_ | with_reducible refine w_max2 ?_ | with_reducible refine w_min2 ?_ | with_reducible refine w_zip ?_ | with_reducible refine w_zipT ?_ | with_reducible refine w_zipL ?_ | with_reducible refine w_zipLN ?_
  | with_reducible refine w_fnv ?_ | with_reducible refine w_isx ?_ | with_reducible refine w_attr ?_ | ((with_reducible refine' w_attrR ?e ?_); case e => rfl) | ((with_reducible refine' w_callv ?e ?_); case e => rfl) | with_reducible refine w_told ?_ | with_reducible refine v_raise ?_
  | ((with_reducible refine' w_ixT ?e ?_); case e => rfl)
  | ((with_reducible refine' w_brd ?e ?_); case e => omega)
  | ((with_reducible refine' w_brn ?e ?_); case e => omega)
  | ((with_reducible refine' w_brnd ?e ?_); case e => omega)
  | ((with_reducible refine' w_brnn ?e ?_); case e => omega)
  | ((with_reducible refine' w_brp ?e ?_); case e => assumption)
  | ((with_reducible refine' w_brq ?e ?_); case e => assumption)))

theorem leaf_small {i : Nat} (h : i ≤ 99) : smallD (.int (i : Nat)) = true := by
  have e : leafD (.int (i : Nat)) = true := by simp [leafD, among]; omega
  simp [smallD, sizeW, e]
theorem size_nil {k : Nat} : sizeW (k + 1) (.tup []) = 1 := by simp [size_tup]
theorem size_mono : ∀ (k : Nat) (d : D), 0 < sizeW k d → sizeW (k + 1) d = sizeW k d
  | 0, d, p => by simp [sizeW] at p
  | k + 1, d, p => by
    cases d with
    | tup l =>
      obtain ⟨q1, q2, q3, q4⟩ := size_row p
      have e : l.map (sizeW (k + 1)) = l.map (sizeW k) := List.map_congr_left fun x hx => size_mono k x (q2 x hx)
      rw [size_tup, e, if_pos ⟨q1, fun x hx => by rw [size_mono k x (q2 x hx)]; exact q2 x hx, q3⟩, q4]
    | _ => simp only [sizeW]
theorem size_up {k j : Nat} {d : D} (p : 0 < sizeW k d) (h : k ≤ j) : sizeW j d = sizeW k d := by
  induction j with
  | zero => have : k = 0 := by omega
            subst this; rfl
  | succ j ih =>
    by_cases q : k ≤ j
    · have := ih q
      rw [size_mono j d (by omega), this]
    · have : k = j + 1 := by omega
      rw [this]
/-- a very small thing -/
def tiny (d : D) : Prop := 0 < sizeW 2 d ∧ sizeW 2 d ≤ 3
theorem tiny.small {d : D} (t : tiny d) : smallD d = true := by
  have := size_up (j := 6) t.1 (by omega)
  have := t.1
  have := t.2
  simp only [smallD, Bool.and_eq_true, decide_eq_true_eq]; omega
theorem tiny_int {i : Nat} (h : i ≤ 99) : tiny (.int (i : Nat)) := by
  have e : leafD (.int (i : Nat)) = true := by simp [leafD, among]; omega
  simp [tiny, sizeW, e]
theorem sumD_le {f : D → Nat} {c : Nat} : ∀ {l : List D}, (∀ x ∈ l, f x ≤ c) → (l.map f).sum ≤ l.length * c
  | [], _ => by simp
  | x :: l, h => by
    have h1 := h x List.mem_cons_self
    have h2 := sumD_le (l := l) fun y hy => h y (List.mem_cons_of_mem _ hy)
    simp only [List.map_cons, List.sum_cons, List.length_cons, Nat.add_mul, Nat.one_mul]; omega
theorem tiny_row {l : List D} (hl : l.length ≤ 10) (h : ∀ x ∈ l, tiny x) : worthD (.tup l) = true := by
  have e : ∀ x ∈ l, sizeW 5 x = sizeW 2 x := fun x hx => size_up (h x hx).1 (by omega)
  have s := sumD_le (f := sizeW 5) (c := 3) (l := l) fun x hx => by rw [e x hx]; exact (h x hx).2
  have := Nat.mul_le_mul_right 3 hl
  simp only [worthD, decide_eq_true_eq]
  rw [size_tup, if_pos ⟨hl, fun x hx => by rw [e x hx]; exact (h x hx).1, by omega⟩]
  omega
theorem w_pickN {l : List D} {i : Int} {h : Hh} {Q : R → Hh → Prop} (h0 : 0 ≤ i) (h1 : i < l.length) (p : ∀ d ∈ l, Q (.dat d) h) : evX X (ofR h (ixF h (.new l) (.dat (.int i))) .dat) Q := w_ixN (atI_in h0 (by omega)) (p _ (List.getElem_mem _))
theorem w_pickL {l : List D} {i : Int} {h : Hh} {Q : R → Hh → Prop} (h0 : 0 ≤ i) (h1 : i < l.length) (p : ∀ d ∈ l, Q (.dat d) h) : evX X (ofR h (ixF h (.dat (.lst l)) (.dat (.int i))) .dat) Q := w_ixF (atI_in h0 (by omega)) (p _ (List.getElem_mem _))
theorem leaf_size {i k : Nat} (h : i ≤ 99) : sizeW (k + 1) (.int (i : Nat)) = 1 := by
  have e : leafD (.int (i : Nat)) = true := by simp [leafD, among]; omega
  simp [sizeW, e]
section
variable {T : Tab} {G : Str → Option D} {n : Nat} {h : Hh} {d : D} {m ci li : Nat} {b : Int}
theorem dleaf_ok (hM : T "_law_mixed" = some f_mixed) (hD : T "_law_draw" = some f_draw) (hL : T "_law_leaf" = some fn__law_leaf) (d : Dr h m ci li b) (hb : b < 2 ^ 58) :
    evX X (run T G (n + 3) "_law_leaf" [.ref m] h) fun r h' => ∃ i : Nat, r = .dat (.int (i : Nat)) ∧ i ≤ 99 ∧ Dr h' m ci li (b + 2) ∧ Kp m li h h' := by
  refine v_run hL rfl ?_
  unfold fn__law_leaf
  simp only [Fn.env, List.map_cons, List.map_nil, Nat.reduceSub, List.replicate_succ, List.replicate_zero, List.cons_append, List.nil_append]
  walk_at "run"
  refine ev_mono (draw_ok hM hD d (by omega) (by decide) (by decide)) ?_
  rintro r h1 ⟨x, rfl, x0, x1, d1, k1⟩
  walk_at "run"
  refine ev_mono (draw_ok hM hD d1 (by omega) (by decide) (by decide)) ?_
  rintro r h2 ⟨y, rfl, y0, y1, d2, k2⟩
  walk_at "run"
  refine w_pickN y0 y1 fun e he => ?_
  obtain ⟨i, rfl, hi⟩ : ∃ i : Nat, e = .int (i : Nat) ∧ i ≤ 99 := by
    simp only [List.mem_cons, List.not_mem_nil, or_false] at he
    rcases he with rfl | rfl | rfl | rfl | rfl | rfl | rfl | rfl
    · exact ⟨0, rfl, by omega⟩
    · exact ⟨1, rfl, by omega⟩
    · exact ⟨2, rfl, by omega⟩
    · exact ⟨1, rfl, by omega⟩
    · exact ⟨2, rfl, by omega⟩
    · exact ⟨5, rfl, by omega⟩
    · exact ⟨99, rfl, by omega⟩
    · exact ⟨x.toNat, by rw [Int.toNat_of_nonneg x0], by omega⟩
  walk_at "run"
  exact ⟨i, rfl, hi, d2.mono (by omega), k1.trans k2⟩
/-- all else stays, but one list -/
def Kr (m li rr : Nat) (h h' : Hh) : Prop := h.length ≤ h'.length ∧ ∀ j, j < h.length → j ≠ m → j ≠ li → j ≠ rr → h'[j]? = h[j]?
theorem Kr.refl {rr : Nat} : Kr m li rr h h := ⟨Nat.le_refl _, fun _ _ _ _ _ => rfl⟩
theorem Kr.trans {rr : Nat} {h1 h2 : Hh} (a : Kr m li rr h h1) (b : Kr m li rr h1 h2) : Kr m li rr h h2 := ⟨Nat.le_trans a.1 b.1, fun j hj n1 n2 n3 => by rw [b.2 j (Nat.lt_of_lt_of_le hj a.1) n1 n2 n3, a.2 j hj n1 n2 n3]⟩
theorem Kp.kr {rr : Nat} {h1 : Hh} (a : Kp m li h h1) : Kr m li rr h h1 := ⟨a.1, fun j hj n1 n2 _ => a.2 j hj n1 n2⟩
theorem Kp.at {j : Nat} {h1 : Hh} {o : O} (a : Kp m li h h1) (e : h[j]? = some o) (n1 : j ≠ m) (n2 : j ≠ li) : h1[j]? = some o := by rw [a.2 j (List.getElem?_eq_some_iff.mp e).1 n1 n2, e]
theorem Dr.set {rr : Nat} {o : O} (d : Dr h m ci li b) (n1 : rr ≠ m) (n2 : rr ≠ ci) (n3 : rr ≠ li) : Dr (h.set rr o) m ci li b := by
  obtain ⟨⟨cs, ls, a, q1, q2, q3, q4, q5, q6, q7, q8⟩, z1, z2, z3⟩ := d
  exact ⟨⟨cs, ls, a, by rw [List.getElem?_set_ne n1]; exact q1, by rw [List.getElem?_set_ne n2]; exact q2, q3, q4, by rw [List.getElem?_set_ne n3]; exact q5, q6, q7, q8⟩, z1, z2, z3⟩
theorem Kr.set {rr : Nat} {o : O} : Kr m li rr h (h.set rr o) := ⟨by simp, fun j _ _ _ n3 => List.getElem?_set_ne (Ne.symm n3)⟩
def pw5 : Nat → Int
  | 0 => 4
  | k + 1 => 4 + 5 * pw5 k
theorem pw5_pos : ∀ k, 0 < pw5 k
  | 0 => by decide
  | k + 1 => by have := pw5_pos k; simp only [pw5]; omega
theorem dworth_ok (hM : T "_law_mixed" = some f_mixed) (hD : T "_law_draw" = some f_draw) (hL : T "_law_leaf" = some fn__law_leaf) (hW : T "_law_worth" = some fn__law_worth) {rr : Nat} (n1 : rr ≠ m) (n2 : rr ≠ ci) (n3 : rr ≠ li) :
    ∀ (k : Nat) {n : Nat} {h : Hh} {b : Int} {room : Nat}, Dr h m ci li b → b + pw5 k < 2 ^ 57 → h[rr]? = some (.lst [.int (room : Nat)]) → 1 ≤ room → room ≤ 60 →
    evX X (run T G (n + k + 4) "_law_worth" [.ref m, .int ((k + 1 : Nat) : Int), .ref rr] h) fun r h' => ∃ (d : D) (room' : Nat), r = .dat d ∧ 0 < sizeW (k + 1) d ∧ sizeW (k + 1) d + room' ≤ room ∧ h'[rr]? = some (.lst [.int (room' : Nat)]) ∧
      Dr h' m ci li (b + pw5 k) ∧ Kr m li rr h h' := by
  intro k
  induction k with
  | zero =>
    intro n h b room d hb hr r1 r2
    have hb : b + 4 < 2 ^ 57 := hb
    refine v_run hW rfl ?_
    unfold fn__law_worth
    simp only [Fn.env, List.map_cons, List.map_nil, Nat.reduceSub, List.replicate_succ, List.replicate_zero, List.cons_append, List.nil_append]
    walk_at "run"
    refine ev_mono (draw_ok (n := n + 1) hM hD d (by omega) (by decide) (by decide)) ?_
    rintro r h1 ⟨x, rfl, x0, x1, d1, k1⟩
    walk_at "run"
    refine ev_mono (draw_ok (n := n + 1) hM hD d1 (by omega) (by decide) (by decide)) ?_
    rintro r h2 ⟨y, rfl, y0, y1, d2, k2⟩
    walk_at "run"
    have hr2 := (k1.trans k2).at hr n1 n3
    refine w_ixL hr2 rfl ?_
    walk_at "run"
    refine v_setLR (j := 0) hr2 rfl ?_
    have hr3 : (h2.set rr (.lst ([D.int (room : Nat)].set 0 (D.int ((room : Nat) - 1)))))[rr]? = some (.lst [.int ((room - 1 : Nat) : Int)]) := by
      rw [get_set_self hr2, show (((room - 1 : Nat) : Int)) = (room : Nat) - 1 by omega]; rfl
    have d3 := d2.set (o := .lst ([D.int (room : Nat)].set 0 (D.int ((room : Nat) - 1)))) n1 n2 n3
    have k3 : Kr m li rr h (h2.set rr (.lst ([D.int (room : Nat)].set 0 (D.int ((room : Nat) - 1))))) := (k1.trans k2).kr.trans Kr.set
    generalize h2.set rr (.lst ([D.int (room : Nat)].set 0 (D.int ((room : Nat) - 1)))) = g at *
    walk_at "run"
    refine ev_br (fun q => ?_) (fun q => ?_)
    · walk_at "run"
      exact ⟨_, room - 1, rfl, by rw [size_nil]; omega, by rw [size_nil]; omega, hr3, d3.mono (by show b + 1 + 1 ≤ b + 4; omega), k3⟩
    · walk_at "run"
      refine ev_mono (dleaf_ok (n := n) hM hD hL d3 (by omega)) ?_
      rintro r h4 ⟨i, rfl, hi, d4, k4⟩
      walk_at "run"
      refine ⟨_, room - 1, rfl, by rw [leaf_size hi]; omega, by rw [leaf_size hi]; omega, k4.at hr3 n1 n3, d4.mono (by show b + 1 + 1 + 2 ≤ b + 4; omega), k3.trans k4.kr⟩
  | succ k ih =>
    intro n h b room d hb hr r1 r2
    have hp := pw5_pos k
    have hb : b + (4 + 5 * pw5 k) < 2 ^ 57 := hb
    refine v_run hW rfl ?_
    unfold fn__law_worth
    simp only [Fn.env, List.map_cons, List.map_nil, Nat.reduceSub, List.replicate_succ, List.replicate_zero, List.cons_append, List.nil_append]
    walk_at "run"
    refine ev_mono (draw_ok (n := n + k + 1 + 1) hM hD d (by omega) (by decide) (by decide)) ?_
    rintro r h1 ⟨x, rfl, x0, x1, d1, k1⟩
    walk_at "run"
    refine ev_mono (draw_ok (n := n + k + 1 + 1) hM hD d1 (by omega) (by decide) (by decide)) ?_
    rintro r h2 ⟨y, rfl, y0, y1, d2, k2⟩
    walk_at "run"
    have hr2 := (k1.trans k2).at hr n1 n3
    refine w_ixL hr2 rfl ?_
    walk_at "run"
    refine v_setLR (j := 0) hr2 rfl ?_
    have hr3 : (h2.set rr (.lst ([D.int (room : Nat)].set 0 (D.int ((room : Nat) - 1)))))[rr]? = some (.lst [.int ((room - 1 : Nat) : Int)]) := by
      rw [get_set_self hr2, show (((room - 1 : Nat) : Int)) = (room : Nat) - 1 by omega]; rfl
    have d3 := d2.set (o := .lst ([D.int (room : Nat)].set 0 (D.int ((room : Nat) - 1)))) n1 n2 n3
    have k3 : Kr m li rr h (h2.set rr (.lst ([D.int (room : Nat)].set 0 (D.int ((room : Nat) - 1))))) := (k1.trans k2).kr.trans Kr.set
    generalize h2.set rr (.lst ([D.int (room : Nat)].set 0 (D.int ((room : Nat) - 1)))) = g at *
    walk_at "run"
    refine w_ixL hr3 rfl ?_
    walk_at "run"
    refine ev_br (fun q => ?_) (fun q => ?_)
    · walk_at "run"
      refine ev_br (fun q => ?_) (fun q => ?_)
      · walk_at "run"
        exact ⟨_, room - 1, rfl, by rw [size_nil]; omega, by rw [size_nil]; omega, hr3, d3.mono (by show b + 1 + 1 ≤ b + (4 + 5 * pw5 k); omega), k3⟩
      · walk_at "run"
        refine ev_mono (dleaf_ok (n := n + k + 1) hM hD hL d3 (by omega)) ?_
        rintro r h4 ⟨i, rfl, hi, d4, k4⟩
        walk_at "run"
        exact ⟨_, room - 1, rfl, by rw [leaf_size hi]; omega, by rw [leaf_size hi]; omega, k4.at hr3 n1 n3, d4.mono (by show b + 1 + 1 + 2 ≤ b + (4 + 5 * pw5 k); omega), k3.trans k4.kr⟩
    · have q : ¬ ((room - 1 : Nat) : Int) < 1 := of_decide_eq_false q
      walk_at "run"
      refine ev_br (fun q2 => ?_) (fun q2 => ?_)
      · walk_at "run"
        refine ev_br (fun q => ?_) (fun q => ?_)
        · walk_at "run"
          exact ⟨_, room - 1, rfl, by rw [size_nil]; omega, by rw [size_nil]; omega, hr3, d3.mono (by show b + 1 + 1 ≤ b + (4 + 5 * pw5 k); omega), k3⟩
        · walk_at "run"
          refine ev_mono (dleaf_ok (n := n + k + 1) hM hD hL d3 (by omega)) ?_
          rintro r h4 ⟨i, rfl, hi, d4, k4⟩
          walk_at "run"
          exact ⟨_, room - 1, rfl, by rw [leaf_size hi]; omega, by rw [leaf_size hi]; omega, k4.at hr3 n1 n3, d4.mono (by show b + 1 + 1 + 2 ≤ b + (4 + 5 * pw5 k); omega), k3.trans k4.kr⟩
      · walk_at "run"
        have hy : ((rngL 0 y.toNat).length : Int) = y := by rw [rngL_length]; omega
        refine ev_for (fun i e g' => i ≤ y.toNat ∧ ∃ (l : List D) (room' : Nat) (s6 : Slot), e = [.val (.ref m), .val (.int ((k + 1 + 1 : Nat) : Int)), .val (.ref rr), .val (.int x), .val (.int y), .own l, s6] ∧ l.length ≤ i ∧ (∀ z ∈ l, 0 < sizeW (k + 1) z) ∧ (l.map (sizeW (k + 1))).sum + room' ≤ room - 1 ∧
            g'[rr]? = some (.lst [.int (room' : Nat)]) ∧ Dr g' m ci li (b + 4 + (i : Nat) * pw5 k) ∧ Kr m li rr h g')
          ⟨Nat.zero_le _, [], room - 1, _, rfl, by simp, by simp, by simp, hr3, d3.mono (by simp; omega), k3⟩ ?_ ?_
        · rintro i d e g' hd ⟨hi0, l, room', s6, rfl, a1, a2, a3, a4, a5, a6⟩
          obtain ⟨hi, rfl⟩ := rngL_get hd
          have hm5 : ((i : Nat) : Int) * pw5 k + pw5 k = ((i + 1 : Nat) : Int) * pw5 k := by rw [show ((i + 1 : Nat) : Int) = (i : Nat) + 1 by omega, Int.add_mul, Int.one_mul]
          have hle : ((i + 1 : Nat) : Int) * pw5 k ≤ 5 * pw5 k := Int.mul_le_mul_of_nonneg_right (by omega) (by omega)
          refine ⟨_, rfl, ?_⟩
          walk_at "run"
          refine w_ixL a4 rfl ?_
          walk_at "run"
          refine ev_br (fun q3 => ?_) (fun q3 => ?_)
          · have q3 : (0 : Int) < (room' : Nat) := of_decide_eq_true q3
            walk_at "run"
            rw [show ((k + 1 + 1 : Nat) : Int) - 1 = ((k + 1 : Nat) : Int) by omega]
            refine ev_mono (ih (n := n) a5 (by omega) a4 (by omega) (by omega)) ?_
            rintro r g2 ⟨d, room2, rfl, c1, c2, c3, c4, c5⟩
            walk_at "run"
            have hl : l.length < sizeLine := by rw [sizeLine_eq]; omega
            with_reducible refine v_appR hl ?_
            walk_at "run"
            refine ⟨by omega, l ++ [d], room2, _, rfl, by simp; omega, fun z hz => ?_, by rw [List.map_append, List.sum_append, List.map_cons, List.map_nil, List.sum_cons, List.sum_nil]; omega, c3, c4.mono (by omega), a6.trans c5⟩
            rcases List.mem_append.mp hz with w | w
            · exact a2 z w
            · rw [List.mem_singleton.mp w]; exact c1
          · walk_at "run"
            exact ⟨by omega, l, room', _, rfl, by omega, a2, a3, a4, a5.mono (by omega), a6⟩
        · rintro e g' ⟨hi0, l, room', s6, rfl, a1, a2, a3, a4, a5, a6⟩
          have hle : (((rngL 0 y.toNat).length : Nat) : Int) * pw5 k ≤ 5 * pw5 k := Int.mul_le_mul_of_nonneg_right (by omega) (by omega)
          walk_at "run"
          have sz : sizeW (k + 1 + 1) (.tup l) = 1 + (l.map (sizeW (k + 1))).sum := by rw [size_tup, if_pos ⟨by rw [rngL_length] at a1; omega, a2, by omega⟩]
          exact ⟨_, room', rfl, by rw [sz]; omega, by rw [sz]; omega, a4, a5.mono (by show b + 4 + _ ≤ b + (4 + 5 * pw5 k); omega), a6⟩
/-- a drawn row's things -/
theorem drow_ok (hM : T "_law_mixed" = some f_mixed) (hD : T "_law_draw" = some f_draw) (hL : T "_law_leaf" = some fn__law_leaf) (hR : T "_law_row" = some fn__law_row) (d : Dr h m ci li b) (hb : b < 2 ^ 57) {most : Nat} (hm : most ≤ 60) :
    evX X (run T G (n + 4) "_law_row" [.ref m, .int (most : Nat)] h) fun r h' => ∃ l : List D, r = .dat (.tup l) ∧ l.length ≤ most ∧ (∀ x ∈ l, tiny x) ∧ Dr h' m ci li (b + 200) ∧ Kp m li h h' := by
  refine v_run hR rfl ?_
  unfold fn__law_row
  simp only [Fn.env, List.map_cons, List.map_nil, Nat.reduceSub, List.replicate_succ, List.replicate_zero, List.cons_append, List.nil_append]
  walk_at "run"
  refine ev_mono (draw_ok (n := n + 1) hM hD d (by omega) (by decide) (by decide)) ?_
  rintro r h1 ⟨x, rfl, x0, x1, d1, k1⟩
  walk_at "run"
  refine ev_mono (draw_ok (n := n + 1) hM hD d1 (by omega) (by decide) (by decide)) ?_
  rintro r h2 ⟨y, rfl, y0, y1, d2, k2⟩
  walk_at "run"
  refine ev_mono (dleaf_ok (n := n) hM hD hL d2 (by omega)) ?_
  rintro r h3 ⟨i, rfl, hi, d3, k3⟩
  walk_at "run"
  have k3 := (k1.trans k2).trans k3
  have sm : ∀ z ∈ [D.int x, D.int y, .int 5, .tup [.int 1], .tup [], .tup [.int 1, .int 2], .tup [.int 2, .int 1], .int (i : Nat)], tiny z := by
    intro z hz
    simp only [List.mem_cons, List.not_mem_nil, or_false] at hz
    rcases hz with rfl | rfl | rfl | rfl | rfl | rfl | rfl | rfl
    · rw [← Int.toNat_of_nonneg x0]; exact tiny_int (by omega)
    · rw [← Int.toNat_of_nonneg y0]; exact tiny_int (by omega)
    · exact ⟨by decide +kernel, by decide +kernel⟩
    · exact ⟨by decide +kernel, by decide +kernel⟩
    · exact ⟨by decide +kernel, by decide +kernel⟩
    · exact ⟨by decide +kernel, by decide +kernel⟩
    · exact ⟨by decide +kernel, by decide +kernel⟩
    · exact tiny_int hi
  have ls : [D.int x, D.int y, .int 5, .tup [.int 1], .tup [], .tup [.int 1, .int 2], .tup [.int 2, .int 1], .int (i : Nat)].length = 8 := rfl
  generalize [D.int x, D.int y, .int 5, .tup [.int 1], .tup [], .tup [.int 1, .int 2], .tup [.int 2, .int 1], .int (i : Nat)] = some at *
  refine ev_mono (draw_ok (n := n + 1) hM hD d3 (by omega) (by omega) (by omega)) ?_
  rintro r h4 ⟨z, rfl, z0, z1, d4, k4⟩
  walk_at "run"
  have k4 := k3.trans k4
  refine ev_comp (fun i acc g => i ≤ z.toNat ∧ acc.length = i ∧ (∀ x ∈ acc, tiny x) ∧ Dr g m ci li (b + 5 + 2 * (i : Nat)) ∧ Kp m li h g) ⟨Nat.zero_le _, rfl, by simp, d4.mono (by omega), k4⟩ (by rw [rngL_length, sizeLine_eq]; simp only [List.length_nil]; omega) ?_ ?_
  · rintro i d acc g hd ⟨i0, a1, a2, a3, a4⟩
    obtain ⟨hi, rfl⟩ := rngL_get hd
    refine ⟨_, rfl, ?_⟩
    walk_at "run"
    refine ev_mono (draw_ok (n := n + 1) hM hD a3 (by omega) (by decide) (by decide)) ?_
    rintro r h5 ⟨u, rfl, u0, u1, d5, k5⟩
    walk_at "run"
    refine w_pickN u0 u1 fun e he => ?_
    obtain ⟨v, rfl, v0, v1⟩ : ∃ v : Int, e = .int v ∧ 0 < v ∧ v ≤ 8 := by
      simp only [List.mem_cons, List.not_mem_nil, or_false] at he
      rcases he with rfl | rfl | rfl
      · exact ⟨3, rfl, by decide⟩
      · exact ⟨4, rfl, by decide⟩
      · exact ⟨8, rfl, by decide⟩
    walk_at "run"
    refine ev_mono (draw_ok (n := n + 1) hM hD d5 (by omega) (by omega) (by omega)) ?_
    rintro r h6 ⟨w, rfl, w0, w1, d6, k6⟩
    walk_at "run"
    refine w_pickL w0 (by omega) fun e he => ?_
    walk_at "run"
    refine ⟨by omega, by simp [a1], fun x hx => ?_, d6.mono (by omega), (a4.trans k5).trans k6⟩
    rcases List.mem_append.mp hx with q | q
    · exact a2 x q
    · rw [List.mem_singleton.mp q]; exact sm e he
  · rintro acc g ⟨i0, a1, a2, a3, a4⟩
    rw [rngL_length] at a1 a3
    walk_at "run"
    exact ⟨acc, rfl, by omega, a2, a3.mono (by omega), a4⟩
theorem mem_rep {α : Type} {k : Nat} {b : List α} {x : α} (h : x ∈ (List.replicate k b).flatten) : x ∈ b := by
  obtain ⟨l, hl, hx⟩ := List.mem_flatten.mp h
  rwa [List.eq_of_mem_replicate hl] at hx
theorem ifN (p : Bool) : ∃ k : Nat, k ≤ 1 ∧ (if p = true then (1 : Int) else 0) = (k : Nat) ∧ (k = 1 ↔ p = true) := by
  cases p
  · exact ⟨0, by omega, rfl, by simp⟩
  · exact ⟨1, by omega, rfl, by simp⟩
theorem dendless_ok (hM : T "_law_mixed" = some f_mixed) (hD : T "_law_draw" = some f_draw) (hL : T "_law_leaf" = some fn__law_leaf) (hR : T "_law_row" = some fn__law_row) (hE : T "_law_endless" = some fn__law_endless) (d : Dr h m ci li b) (hb : b < 2 ^ 56) {many : Nat} (hm : many ≤ 50) :
    evX X (run T G (n + 5) "_law_endless" [.ref m, .int (many : Nat)] h) fun r h' => ∃ s a : List D, r = .dat (endl s a) ∧ s.length ≤ many + 8 ∧ a.length ≤ 8 ∧ IR s a ∧ Dr h' m ci li (b + 500) ∧ Kp m li h h' := by
  refine v_run hE rfl ?_
  unfold fn__law_endless
  simp only [Fn.env, List.map_cons, List.map_nil, Nat.reduceSub, List.replicate_succ, List.replicate_zero, List.cons_append, List.nil_append]
  walk_at "run"
  refine ev_mono (drow_ok (n := n) hM hD hL hR d (by omega) (by omega)) ?_
  rintro r h1 ⟨st, rfl, a1, a2, d1, k1⟩
  walk_at "run"
  refine ev_mono (drow_ok (n := n) (most := 3) hM hD hL hR d1 (by omega) (by omega)) ?_
  rintro r h2 ⟨ar, rfl, b1, b2, d2, k2⟩
  walk_at "run"
  refine ev_mono (draw_ok (n := n + 2) hM hD d2 (by omega) (by decide) (by decide)) ?_
  rintro r h3 ⟨x, rfl, x0, x1, d3, k3⟩
  walk_at "run"
  have z1 : ar.length + [D.int x].length ≤ big := le_big (by simp only [List.length_cons, List.length_nil]; omega)
  with_reducible refine w_addT z1 ?_
  walk_at "run"
  have c1 : (ar ++ [D.int x]).length ≤ 4 := by rw [List.length_append]; simp only [List.length_cons, List.length_nil]; omega
  have c0 : ar ++ [D.int x] ≠ [] := by simp
  have c2 : ∀ y ∈ ar ++ [D.int x], smallD y = true := by
    intro y hy
    rcases List.mem_append.mp hy with q | q
    · exact (b2 y q).small
    · rw [List.mem_singleton.mp q, ← Int.toNat_of_nonneg x0]; exact leaf_small (by omega)
  generalize ar ++ [D.int x] = ar2 at *
  refine ev_mono (draw_ok (n := n + 2) hM hD d3 (by omega) (by decide) (by decide)) ?_
  rintro r h4 ⟨y, rfl, y0, y1, d4, k4⟩
  walk_at "run"
  refine w_pickN y0 y1 fun e he => ?_
  have hv : ∃ v : Nat, e = .int (v : Nat) ∧ 0 < v ∧ v ≤ 2 := by
    simp only [List.mem_cons, List.not_mem_nil, or_false] at he
    rcases he with rfl | rfl | rfl
    · exact ⟨1, rfl, by decide⟩
    · exact ⟨1, rfl, by decide⟩
    · exact ⟨2, rfl, by decide⟩
  obtain ⟨v, hv, v0, v1⟩ := hv
  rw [hv]
  have z2 : ar2.length * v ≤ 8 := Nat.mul_le_mul c1 v1
  have z3 : ar2.length * v ≤ big := le_big (by omega)
  have z4 : v ≤ big := le_big (by omega)
  with_reducible refine w_mulTN z4 z3 ?_
  have e1 : (List.replicate v ar2).flatten.length ≤ 8 := by rw [rep_len, Nat.mul_comm]; exact z2
  have e2 : ∀ y ∈ (List.replicate v ar2).flatten, smallD y = true := fun y hy => c2 y (mem_rep hy)
  have e0 : (List.replicate v ar2).flatten ≠ [] := fun q => by
    have := congrArg List.length q
    rw [rep_len] at this
    have h5 := List.length_pos_iff.mpr c0
    have h6 := Nat.mul_pos v0 h5
    simp only [List.length_nil] at this
    omega
  generalize (List.replicate v ar2).flatten = a at *
  walk_at "run"
  refine ev_mono (draw_ok (n := n + 2) hM hD d4 (by omega) (by omega) (by omega)) ?_
  rintro r h5 ⟨u, rfl, u0, u1, d5, k5⟩
  walk_at "run"
  refine ev_mono (draw_ok (n := n + 2) hM hD d5 (by omega) (by decide) (by decide)) ?_
  rintro r h6 ⟨w, rfl, w0, w1, d6, k6⟩
  walk_at "run"
  obtain ⟨k, hk, ek, _⟩ := ifN (decide (w = 0))
  rw [ek, cut_to u0]
  have z5 : k ≤ big := le_big (by omega)
  have z6 : (a.take u.toNat).length * k ≤ 8 * 1 := Nat.mul_le_mul (by rw [List.length_take]; omega) hk
  have z7 : (a.take u.toNat).length * k ≤ big := le_big (by omega)
  with_reducible refine w_mulTN z5 z7 ?_
  have f1 : (List.replicate k (a.take u.toNat)).flatten.length ≤ 8 := by rw [rep_len, Nat.mul_comm]; exact z6
  have f2 : ∀ y ∈ (List.replicate k (a.take u.toNat)).flatten, smallD y = true := fun y hy => e2 y (List.mem_of_mem_take (mem_rep hy))
  generalize (List.replicate k (a.take u.toNat)).flatten = t at *
  have z8 : st.length + t.length ≤ big := le_big (by omega)
  with_reducible refine w_addT z8 ?_
  walk_at "run"
  refine ⟨st ++ t, a, rfl, by rw [List.length_append]; omega, e1, ⟨by rw [List.length_append]; omega, by omega, e0, fun y hy => ?_, e2⟩, d6.mono (by omega), ((((k1.trans k2).trans k3).trans k4).trans k5).trans k6⟩
  rcases List.mem_append.mp hy with q | q
  · exact (a2 y q).small
  · exact f2 y q
end
theorem Dr.more {h : Hh} {m ci li : Nat} {b : Int} (d : Dr h m ci li b) (o : List O) : Dr (h ++ o) m ci li b := by
  obtain ⟨⟨cs, ls, a, q1, q2, q3, q4, q5, q6, q7, q8⟩, z1, z2, z3⟩ := d
  have g : ∀ {j : Nat} {x : O}, h[j]? = some x → (h ++ o)[j]? = some x := fun e => by rw [List.getElem?_append_left (List.getElem?_eq_some_iff.mp e).1]; exact e
  exact ⟨⟨cs, ls, a, g q1, g q2, q3, q4, g q5, q6, q7, q8⟩, z1, z2, z3⟩
theorem Dr.lt {h : Hh} {m ci li : Nat} {b : Int} (d : Dr h m ci li b) : m < h.length ∧ ci < h.length ∧ li < h.length := by
  obtain ⟨⟨cs, ls, a, q1, q2, q3, q4, q5, q6, q7, q8⟩, z1, z2, z3⟩ := d
  exact ⟨(List.getElem?_eq_some_iff.mp q1).1, (List.getElem?_eq_some_iff.mp q2).1, (List.getElem?_eq_some_iff.mp q5).1⟩
end Mi
/-! Mi21: the laws' own lean rows. -/
namespace Mi
open PySem PySem.Spec PyProof.Rows L2
variable {X : Exc → Hh → Prop}
def fn__law_lean : Fn := ⟨1, 4, (.cons (.ifs (.or2 (.not1 (.isi (.var 0) .tuple)) (.cmp .ne (.sl (.var 0) .no (.part (.con (.int 1)))) (.tup (.cons (.con (.str "endless")) .nil)))) (.cons (.ret (.var 0)) .nil) .nil) (.cons (.asgs [1, 2] (.sl (.var 0) (.part (.con (.int 1))) .no)) (.cons (.for' (.nm 3) (.rng3 (.bin .sub (.blt .len (.cons (.var 2) .nil)) (.con (.int 1))) (.con (.int 0)) (.neg (.con (.int 1)))) (.cons (.ifs (.and2 (.cmp .eq (.bin .mod (.blt .len (.cons (.var 2) .nil)) (.var 3)) (.con (.int 0))) (.cmp .eq (.bin .mul (.sl (.var 2) .no (.part (.var 3))) (.bin .fdiv (.blt .len (.cons (.var 2) .nil)) (.var 3))) (.var 2))) (.cons (.ret (.call "_law_lean" (.cons (.tup (.cons (.con (.str "endless")) (.cons (.var 1) (.cons (.sl (.var 2) .no (.part (.var 3))) .nil)))) .nil))) .nil) .nil) .nil)) (.cons (.whl (.and2 (.cmp .ne (.var 1) (.tup .nil)) (.cmp .eq (.ix (.var 1) (.neg (.con (.int 1)))) (.ix (.var 2) (.neg (.con (.int 1)))))) (.cons (.asgs [1, 2] (.tup (.cons (.sl (.var 1) .no (.part (.neg (.con (.int 1))))) (.cons (.bin .add (.sl (.var 2) (.part (.neg (.con (.int 1)))) .no) (.sl (.var 2) .no (.part (.neg (.con (.int 1)))))) .nil)))) .nil)) (.cons (.ret (.tup (.cons (.con (.str "endless")) (.cons (.var 1) (.cons (.var 2) .nil))))) .nil)))))⟩
local macro_rules | `(tactic| walk_at "run") => `(tactic| repeat (first
  | with_reducible refine w_notT ?_ | with_reducible refine w_notF ?_
  | with_reducible refine w_con ?_ | ((with_reducible refine' w_var ?e ?_); case e => rfl)
  | with_reducible refine w_bin ?_ | with_reducible refine w_fzD ?_ | with_reducible refine w_bind ?_ | with_reducible refine w_ok ?_
  | with_reducible refine w_addI ?_ | with_reducible refine w_subI ?_
  | with_reducible refine w_cons ?_ | with_reducible refine w_nil ?_ | with_reducible refine w_call ?_
  | with_reducible refine v_cons ?_ | ((with_reducible refine v_contN ?_); try simp only [setV, List.set_cons_succ, List.set_cons_zero]) | with_reducible refine v_contR ?_ | with_reducible refine v_asg ?_ | with_reducible refine v_ret ?_ | with_reducible refine v_retD ?_ | with_reducible refine v_endR ?_
  | with_reducible refine v_nil ?_ | with_reducible refine v_ifs ?_ | with_reducible refine w_brt ?_ | with_reducible refine w_brf ?_
  | with_reducible refine w_and ?_ | with_reducible refine w_or ?_ | with_reducible refine w_not ?_ | with_reducible refine w_notR ?_ | with_reducible refine w_ite ?_
  | with_reducible refine w_cmp ?_ | with_reducible refine w_chain ?_ | with_reducible refine w_ltI ?_ | with_reducible refine w_leI ?_ | with_reducible refine w_gtI ?_ | with_reducible refine w_geI ?_ | with_reducible refine w_eqI ?_
  | with_reducible refine w_isi ?_ | with_reducible refine w_blt ?_ | with_reducible refine w_ix ?_ | with_reducible refine w_dget ?_
  | ((with_reducible refine' w_modI ?e ?_); case e => (first | decide | omega))
  | ((with_reducible refine' w_fdivI ?e ?_); case e => (first | decide | omega))
  | ((with_reducible refine' w_mulI ?e ?_); case e => (first | exact near_r (by decide) | exact near_l (by decide) | exact near_ro (by omega) (by omega) | exact near_lo (by omega) (by omega)))
  | ((with_reducible refine' w_powI ?e ?_); case e => decide)
  | with_reducible refine w_neg ?_ | with_reducible refine w_negI ?_
  | with_reducible refine w_tup ?_ | with_reducible refine w_lst ?_ | ((with_reducible refine' w_lenR ?e ?_); case e => (first | decide | (simp only [List.length_cons, List.length_nil, Nat.zero_add, Nat.reduceAdd]; decide)))
  | with_reducible refine w_fzN ?_ | ((with_reducible refine' w_glo ?e ?_); case e => (first | assumption | rfl))
  | with_reducible refine w_sl ?_ | with_reducible refine w_ono ?_ | with_reducible refine w_opart ?_ | with_reducible refine w_intR ?_ | with_reducible refine w_strR ?_ | with_reducible refine w_tupR ?_ | with_reducible refine w_newR ?_ | ((with_reducible refine' w_optR ?e ?_); case e => rfl)
  | with_reducible refine w_mth ?_ | with_reducible refine w_comp ?_ | with_reducible refine w_seq ?_ | with_reducible refine w_rng1 ?_ | with_reducible refine w_rng2 ?_ | with_reducible refine w_rng3 ?_ | with_reducible refine w_enum ?_ | ((with_reducible refine' w_rng1R ?e ?_); case e => exact rng_ok1 (by omega) (by omega)) | ((with_reducible refine' w_rngR ?e ?_); case e => exact rng_ok2 (by omega) (by omega) (by omega) (by omega)) | ((with_reducible refine' w_rngD ?e ?_); case e => exact rng_ok2 (by omega) (by omega) (by omega) (by omega))
  | with_reducible refine w_promo ?_ | with_reducible refine w_proN ?_ | with_reducible refine w_proD ?_ | with_reducible refine w_dct ?_ | ((with_reducible refine' w_dctR ?e ?_); case e => decide)
  | with_reducible refine v_own ?_ | with_reducible refine v_any ?_ | with_reducible refine v_anyN ?_ | with_reducible refine v_anyD ?_ | with_reducible refine w_blt1 ?_ | with_reducible refine v_asgs ?_ | with_reducible refine v_setL ?_ | with_reducible refine v_setD ?_ | with_reducible refine v_setOwn ?_ | ((with_reducible refine' v_ownR ?e ?_); case e => rfl)
  | ((with_reducible refine' v_app ?e ?_); case e => rfl) | ((with_reducible refine' v_ext ?e ?_); case e => rfl) | with_reducible refine v_expr ?_ | with_reducible refine v_for ?_ | with_reducible refine v_whl ?_
  | ((with_reducible refine' v_retV ?e ?_); case e => rfl) | with_reducible refine v_retn ?_ | with_reducible refine v_pass ?_ | with_reducible refine v_brk ?_ | with_reducible refine v_cnt ?_ | ((with_reducible refine' v_frz ?e ?_); case e => rfl)
  | with_reducible refine v_contB ?_ | with_reducible refine v_contC ?_ | with_reducible refine v_retN ?_ | with_reducible refine v_endN ?_ | with_reducible refine w_compG ?_
  | ((with_reducible refine' w_varO ?e ?_); case e => rfl)
  | ((with_reducible refine' w_dgetK ?e ?q ?_); (case e => first | assumption | rfl); (case q => rfl); (try dsimp only))
  | with_reducible refine w_lenT ?_ | with_reducible refine w_lenLs ?_ | with_reducible refine w_slT ?_ | with_reducible refine w_slL ?_ | with_reducible refine w_tupN ?_ | with_reducible refine w_seqT ?_ | with_reducible refine w_seqL ?_ | with_reducible refine w_seqN ?_ | with_reducible refine w_intB ?_ | with_reducible refine w_intI ?_ | with_reducible refine w_neI ?_
  | with_reducible refine w_isi_int_non ?_ | with_reducible refine w_isi_int_bl ?_ | with_reducible refine w_isi_int_int ?_ | with_reducible refine w_isi_int_str ?_ | with_reducible refine w_isi_int_tup ?_ | with_reducible refine w_isi_int_lst ?_ | with_reducible refine w_isi_bool_non ?_ | with_reducible refine w_isi_bool_bl ?_ | with_reducible refine w_isi_bool_int ?_ | with_reducible refine w_isi_bool_str ?_ | with_reducible refine w_isi_bool_tup ?_ | with_reducible refine w_isi_bool_lst ?_ | with_reducible refine w_isi_str_non ?_ | with_reducible refine w_isi_str_bl ?_ | with_reducible refine w_isi_str_int ?_ | with_reducible refine w_isi_str_str ?_ | with_reducible refine w_isi_str_tup ?_ | with_reducible refine w_isi_str_lst ?_ | with_reducible refine w_isi_tuple_non ?_ | with_reducible refine w_isi_tuple_bl ?_ | with_reducible refine w_isi_tuple_int ?_ | with_reducible refine w_isi_tuple_str ?_ | with_reducible refine w_isi_tuple_tup ?_ | with_reducible refine w_isi_tuple_lst ?_ | with_reducible refine w_isi_list_non ?_ | with_reducible refine w_isi_list_bl ?_ | with_reducible refine w_isi_list_int ?_ | with_reducible refine w_isi_list_str ?_ | with_reducible refine w_isi_list_tup ?_ | with_reducible refine w_isi_list_lst ?_
  | with_reducible refine w_lrng1 ?_ | with_reducible refine w_lrng2 ?_ | ((with_reducible refine' w_lrngR ?e ?_); case e => (refine ⟨?_, ?_, ?_, ?_, ?_⟩ <;> omega)) | with_reducible refine w_lrngR2 ?_ | with_reducible refine w_max2 ?_ | with_reducible refine w_min2 ?_ | with_reducible refine w_zip ?_ | with_reducible refine w_zipT ?_ | with_reducible refine w_zipL ?_ | with_reducible refine w_zipLN ?_
  | with_reducible refine w_fnv ?_ | with_reducible refine w_isx ?_ | with_reducible refine w_attr ?_ | ((with_reducible refine' w_attrR ?e ?_); case e => rfl) | ((with_reducible refine' w_callv ?e ?_); case e => rfl) | with_reducible refine w_told ?_ | with_reducible refine v_raise ?_
  | ((with_reducible refine' w_ixT ?e ?_); case e => rfl)
  | ((with_reducible refine' w_brd ?e ?_); case e => omega)
  | ((with_reducible refine' w_brn ?e ?_); case e => omega)
  | ((with_reducible refine' w_brnd ?e ?_); case e => omega)
  | ((with_reducible refine' w_brnn ?e ?_); case e => omega)
  | ((with_reducible refine' w_brp ?e ?_); case e => assumption)
  | ((with_reducible refine' w_brq ?e ?_); case e => assumption)))
local macro_rules | `(tactic| walk_at "one") => `(tactic| (first
  | with_reducible refine w_notT ?_ | with_reducible refine w_notF ?_
  | with_reducible refine w_con ?_ | ((with_reducible refine' w_var ?e ?_); case e => rfl)
  | with_reducible refine w_bin ?_ | with_reducible refine w_fzD ?_ | with_reducible refine w_bind ?_ | with_reducible refine w_ok ?_
  | with_reducible refine w_addI ?_ | with_reducible refine w_subI ?_
  | with_reducible refine w_cons ?_ | with_reducible refine w_nil ?_ | with_reducible refine w_call ?_
  | with_reducible refine v_cons ?_ | ((with_reducible refine v_contN ?_); try simp only [setV, List.set_cons_succ, List.set_cons_zero]) | with_reducible refine v_contR ?_ | with_reducible refine v_asg ?_ | with_reducible refine v_ret ?_ | with_reducible refine v_retD ?_ | with_reducible refine v_endR ?_
  | with_reducible refine v_nil ?_ | with_reducible refine v_ifs ?_ | with_reducible refine w_brt ?_ | with_reducible refine w_brf ?_
  | with_reducible refine w_and ?_ | with_reducible refine w_or ?_ | with_reducible refine w_not ?_ | with_reducible refine w_notR ?_ | with_reducible refine w_ite ?_
  | with_reducible refine w_cmp ?_ | with_reducible refine w_chain ?_ | with_reducible refine w_ltI ?_ | with_reducible refine w_leI ?_ | with_reducible refine w_gtI ?_ | with_reducible refine w_geI ?_ | with_reducible refine w_eqI ?_
  | with_reducible refine w_isi ?_ | with_reducible refine w_blt ?_ | with_reducible refine w_ix ?_ | with_reducible refine w_dget ?_
  | ((with_reducible refine' w_modI ?e ?_); case e => (first | decide | omega))
  | ((with_reducible refine' w_fdivI ?e ?_); case e => (first | decide | omega))
  | ((with_reducible refine' w_mulI ?e ?_); case e => (first | exact near_r (by decide) | exact near_l (by decide) | exact near_ro (by omega) (by omega) | exact near_lo (by omega) (by omega)))
  | ((with_reducible refine' w_powI ?e ?_); case e => decide)
  | with_reducible refine w_neg ?_ | with_reducible refine w_negI ?_
  | with_reducible refine w_tup ?_ | with_reducible refine w_lst ?_ | ((with_reducible refine' w_lenR ?e ?_); case e => (first | decide | (simp only [List.length_cons, List.length_nil, Nat.zero_add, Nat.reduceAdd]; decide)))
  | with_reducible refine w_fzN ?_ | ((with_reducible refine' w_glo ?e ?_); case e => (first | assumption | rfl))
  | with_reducible refine w_sl ?_ | with_reducible refine w_ono ?_ | with_reducible refine w_opart ?_ | with_reducible refine w_intR ?_ | with_reducible refine w_strR ?_ | with_reducible refine w_tupR ?_ | with_reducible refine w_newR ?_ | ((with_reducible refine' w_optR ?e ?_); case e => rfl)
  | with_reducible refine w_mth ?_ | with_reducible refine w_comp ?_ | with_reducible refine w_seq ?_ | with_reducible refine w_rng1 ?_ | with_reducible refine w_rng2 ?_ | with_reducible refine w_rng3 ?_ | with_reducible refine w_enum ?_ | ((with_reducible refine' w_rng1R ?e ?_); case e => exact rng_ok1 (by omega) (by omega)) | ((with_reducible refine' w_rngR ?e ?_); case e => exact rng_ok2 (by omega) (by omega) (by omega) (by omega)) | ((with_reducible refine' w_rngD ?e ?_); case e => exact rng_ok2 (by omega) (by omega) (by omega) (by omega))
  | with_reducible refine w_promo ?_ | with_reducible refine w_proN ?_ | with_reducible refine w_proD ?_ | with_reducible refine w_dct ?_ | ((with_reducible refine' w_dctR ?e ?_); case e => decide)
  | with_reducible refine v_own ?_ | with_reducible refine v_any ?_ | with_reducible refine v_anyN ?_ | with_reducible refine v_anyD ?_ | with_reducible refine w_blt1 ?_ | with_reducible refine v_asgs ?_ | with_reducible refine v_setL ?_ | with_reducible refine v_setD ?_ | with_reducible refine v_setOwn ?_ | ((with_reducible refine' v_ownR ?e ?_); case e => rfl)
  | ((with_reducible refine' v_app ?e ?_); case e => rfl) | ((with_reducible refine' v_ext ?e ?_); case e => rfl) | with_reducible refine v_expr ?_ | with_reducible refine v_for ?_ | with_reducible refine v_whl ?_
  | ((with_reducible refine' v_retV ?e ?_); case e => rfl) | with_reducible refine v_retn ?_ | with_reducible refine v_pass ?_ | with_reducible refine v_brk ?_ | with_reducible refine v_cnt ?_ | ((with_reducible refine' v_frz ?e ?_); case e => rfl)
  | with_reducible refine v_contB ?_ | with_reducible refine v_contC ?_ | with_reducible refine v_retN ?_ | with_reducible refine v_endN ?_ | with_reducible refine w_compG ?_
  | ((with_reducible refine' w_varO ?e ?_); case e => rfl)
  | ((with_reducible refine' w_dgetK ?e ?q ?_); (case e => first | assumption | rfl); (case q => rfl); (try dsimp only))
  | with_reducible refine w_lenT ?_ | with_reducible refine w_lenLs ?_ | with_reducible refine w_slT ?_ | with_reducible refine w_slL ?_ | with_reducible refine w_tupN ?_ | with_reducible refine w_seqT ?_ | with_reducible refine w_seqL ?_ | with_reducible refine w_seqN ?_ | with_reducible refine w_intB ?_ | with_reducible refine w_intI ?_ | with_reducible refine w_neI ?_
  | with_reducible refine w_isi_int_non ?_ | with_reducible refine w_isi_int_bl ?_ | with_reducible refine w_isi_int_int ?_ | with_reducible refine w_isi_int_str ?_ | with_reducible refine w_isi_int_tup ?_ | with_reducible refine w_isi_int_lst ?_ | with_reducible refine w_isi_bool_non ?_ | with_reducible refine w_isi_bool_bl ?_ | with_reducible refine w_isi_bool_int ?_ | with_reducible refine w_isi_bool_str ?_ | with_reducible refine w_isi_bool_tup ?_ | with_reducible refine w_isi_bool_lst ?_ | with_reducible refine w_isi_str_non ?_ | with_reducible refine w_isi_str_bl ?_ | with_reducible refine w_isi_str_int ?_ | with_reducible refine w_isi_str_str ?_ | with_reducible refine w_isi_str_tup ?_ | with_reducible refine w_isi_str_lst ?_ | with_reducible refine w_isi_tuple_non ?_ | with_reducible refine w_isi_tuple_bl ?_ | with_reducible refine w_isi_tuple_int ?_ | with_reducible refine w_isi_tuple_str ?_ | with_reducible refine w_isi_tuple_tup ?_ | with_reducible refine w_isi_tuple_lst ?_ | with_reducible refine w_isi_list_non ?_ | with_reducible refine w_isi_list_bl ?_ | with_reducible refine w_isi_list_int ?_ | with_reducible refine w_isi_list_str ?_ | with_reducible refine w_isi_list_tup ?_ | with_reducible refine w_isi_list_lst ?_
  | with_reducible refine w_lrng1 ?_ | with_reducible refine w_lrng2 ?_ | ((with_reducible refine' w_lrngR ?e ?_); case e => (refine ⟨?_, ?_, ?_, ?_, ?_⟩ <;> omega)) | with_reducible refine w_lrngR2 ?_ | with_reducible refine w_max2 ?_ | with_reducible refine w_min2 ?_ | with_reducible refine w_zip ?_ | with_reducible refine w_zipT ?_ | with_reducible refine w_zipL ?_ | with_reducible refine w_zipLN ?_
  | with_reducible refine w_fnv ?_ | with_reducible refine w_isx ?_ | with_reducible refine w_attr ?_ | ((with_reducible refine' w_attrR ?e ?_); case e => rfl) | ((with_reducible refine' w_callv ?e ?_); case e => rfl) | with_reducible refine w_told ?_ | with_reducible refine v_raise ?_
  | ((with_reducible refine' w_ixT ?e ?_); case e => rfl)
  | ((with_reducible refine' w_brd ?e ?_); case e => omega)
  | ((with_reducible refine' w_brn ?e ?_); case e => omega)
  | ((with_reducible refine' w_brnd ?e ?_); case e => omega)
  | ((with_reducible refine' w_brnn ?e ?_); case e => omega)
  | ((with_reducible refine' w_brp ?e ?_); case e => assumption)
  | ((with_reducible refine' w_brq ?e ?_); case e => assumption)))

section
variable {T : Tab} {G : Str → Option D} {n : Nat} {h : Hh} {d : D}
theorem cut_one {x : D} {l : List D} : cutD (x :: l) none (some 1) = [x] := by rw [cut_to (by omega)]; rfl
theorem cut_nil1 : cutD [] none (some 1) = [] := rfl
theorem isLean_of {s a : List D} (h0 : a ≠ []) (hp : prim a) (q : s = [] ∨ s.getLast? ≠ a.getLast?) : isLean s a := ⟨h0, hp, q⟩
/-- the laws' own lean row, of an endless one -/
theorem llean_ok (hT : T "_law_lean" = some fn__law_lean) : ∀ (k : Nat) {n : Nat} {s a : List D}, a.length ≤ k → (∀ x ∈ s, Pl 50 x) → (∀ x ∈ a, Pl 50 x) → s.length ≤ 1000 → a.length ≤ 1000 → a ≠ [] → run T G (n + k) "_law_lean" [endl s a] h = .ok (.dat (lnOf s a)) h := by
  intro k
  induction k with
  | zero => intro n s a hk _ _ _ _ h0; exact absurd (List.eq_nil_of_length_eq_zero (by omega)) h0
  | succ k ih =>
    intro n s a hk hs ha ls la h0
    have hp : 0 < a.length := List.length_pos_iff.mpr h0
    refine ev_eq (v_run hT rfl ?_)
    unfold fn__law_lean
    simp only [Fn.env, List.map_cons, List.map_nil, Nat.reduceSub, List.replicate_succ, List.replicate_zero, List.cons_append, List.nil_append]
    unfold endl
    walk_at "run"
    rw [cut_one]
    refine w_neP (Pl.le (Pl.tup (k := 50) (by simp; exact .str strOk_endless)) (by omega)) (Pl.le (Pl.tup (k := 50) (by simp; exact .str strOk_endless)) (by omega)) ?_
    rw [show (!decide ((R.dat (D.tup [.str "endless"])).d = (R.dat (D.tup [.str "endless"])).d)) = false by simp]
    walk_at "run"
    refine ev_for (fun i e g => g = h ∧ (∀ j, a.length ≤ j + i → ¬ hasP a j) ∧ ∃ s3, e = [.val (.tup [.str "endless", .tup s, .tup a]), .val (.tup s), .val (.tup a), s3]) ⟨rfl, fun j hj z => by have := z.2.1; omega, _, rfl⟩ ?_ ?_
    · rintro i x env g hx ⟨rfl, p1, s3, rfl⟩
      obtain ⟨hi, rfl⟩ := rng3_get hx
      obtain ⟨m, em⟩ : ∃ m, m = a.length - 1 - i := ⟨_, rfl⟩
      rw [show (a.length : Int) - 1 + (i : Nat) * (-1) = (m : Int) by omega]
      have hm : m < a.length := by omega
      have hm1 : 0 < m := by omega
      refine ⟨_, rfl, ?_⟩
      walk_at "run"
      have ed : ((a.length : Nat) : Int) / ((m : Nat) : Int) = ((a.length / m : Nat) : Int) := by simp
      obtain ⟨q, hq⟩ : ∃ q, q = a.length / m := ⟨_, rfl⟩
      rw [← hq] at ed
      have en : ((a.length : Nat) : Int) % ((m : Nat) : Int) = ((a.length % m : Nat) : Int) := by simp
      rw [en]
      refine ev_br (fun h1 => ?_) (fun h1 => ?_)
      · simp only [decide_eq_true_eq] at h1
        walk_at "run"
        rw [cut_toN, ed]
        have hd : a.length / m * m = a.length := Nat.div_mul_cancel (Nat.dvd_of_mod_eq_zero (by omega))
        have hlt : (a.take m).length = m := by rw [List.length_take]; omega
        have hdl : a.length / m ≤ a.length := Nat.div_le_self _ _
        rw [← hq] at hd hdl
        have z1 : q ≤ big := le_big (by omega)
        have z2 : (a.take m).length * q ≤ big := le_big (by rw [hlt, Nat.mul_comm, hd]; omega)
        with_reducible refine w_mulTN z1 z2 ?_
        walk_at "run"
        refine w_eqP (Pl.le (pl_rep ha fun x hx => List.mem_of_mem_take hx) (by omega)) (Pl.le (Pl.tup ha) (by omega)) ?_
        refine ev_br (fun h2 => ?_) (fun h2 => ?_)
        · have h2 : D.tup (List.replicate q (a.take m)).flatten = .tup a := of_decide_eq_true h2
          rw [D.tup.injEq] at h2
          have hh : hasP a m := ⟨hm1, hm, by omega, by rw [← hq]; exact h2⟩
          walk_at "run"
          rw [cut_toN]
          have t0 : a.take m ≠ [] := fun z => by rw [z] at hlt; simp at hlt; omega
          refine ev_of (ih (n := n) (s := s) (a := a.take m) (by omega) hs (fun x hx => ha x (List.mem_of_mem_take hx)) ls (by omega) t0) ?_
          walk_at "run"
          refine ⟨?_, rfl⟩
          unfold lnOf
          rw [leaned_eq t0 h0 (strm_cyc (funext (hasP_cyc hh)))]
        · have h2 : ¬ D.tup (List.replicate q (a.take m)).flatten = .tup a := of_decide_eq_false h2
          rw [D.tup.injEq] at h2
          walk_at "run"
          refine ⟨rfl, fun j hj z => ?_, _, rfl⟩
          by_cases e : j = m
          · subst e; exact h2 (by rw [hq]; exact z.2.2.2)
          · exact p1 j (by omega) z
      · simp only [decide_eq_false_iff_not] at h1
        walk_at "run"
        refine ⟨rfl, fun j hj z => ?_, _, rfl⟩
        by_cases e : j = m
        · subst e; exact h1 (by rw [z.2.2.1]; rfl)
        · exact p1 j (by omega) z
    · rintro env g ⟨rfl, p1, s3, rfl⟩
      have hprim : prim a := fun j z => by
        by_cases e : a.length ≤ j + (rng3L ((a.length : Int) - 1) (-1) ((a.length : Int) - 1 - 0).toNat).length
        · exact p1 j e z
        · have := z.1
          simp [rng3L] at e
          omega
      walk_at "run"
      refine ev_whl (fun m e g' => g' = g ∧ ∃ s' a', e = [.val (.tup [.str "endless", .tup s, .tup a]), .val (.tup s'), .val (.tup a'), s3] ∧ s'.length = m ∧ a' ≠ [] ∧ prim a' ∧ strm s' a' = strm s a ∧ (∀ x ∈ s', Pl 50 x) ∧ (∀ x ∈ a', Pl 50 x) ∧ a'.length ≤ 1000) ?_ whlMost s.length (Nat.lt_of_le_of_lt ls (by decide))
        ⟨rfl, s, a, rfl, rfl, h0, hprim, rfl, hs, ha, la⟩
      rintro m env g' ⟨rfl, s', a', rfl, rfl, a0, pr, eq, ps, pa, la'⟩
      walk_at "run"
      refine w_neP (Pl.le (Pl.tup ps) (by omega)) (Pl.le (Pl.tup (k := 50) (l := []) (by simp)) (by omega)) ?_
      have fin : (s' = [] ∨ s'.getLast? ≠ a'.getLast?) → lnOf s a = endl s' a' := fun q => by
        have e : leaned s a = (s', a') := by rw [← leaned_eq (s := s') a0 h0 eq]; exact leaned_self ⟨a0, pr, q⟩
        unfold lnOf
        rw [e]
      by_cases z : s' = []
      · rw [show (!decide ((R.dat (D.tup s')).d = (R.dat (D.tup [])).d)) = false by simp [z]]
        walk_at "run"
        exact ⟨by rw [fin (.inl z)]; rfl, rfl⟩
      · rw [show (!decide ((R.dat (D.tup s')).d = (R.dat (D.tup [])).d)) = true by simp [R.d, z]]
        walk_at "run"
        refine w_ixT (atI_last' z) ?_
        walk_at "run"
        refine w_ixT (atI_last' a0) ?_
        refine w_eqP (Pl.le (ps _ (List.getLast_mem z)) (by omega)) (Pl.le (pa _ (List.getLast_mem a0)) (by omega)) ?_
        refine ev_br (fun h1 => ?_) (fun h1 => ?_)
        · have h1 : s'.getLast z = a'.getLast a0 := of_decide_eq_true h1
          rw [last_eq] at h1
          walk_at "run"
          rw [cut_last, cut_init]
          refine w_addT (le_big (by rw [List.length_drop, List.length_dropLast]; omega)) ?_
          walk_at "run"
          rw [cut_init]
          have hp : 0 < s'.length := List.length_pos_iff.mpr z
          exact ⟨s'.length - 1, by omega, rfl, s'.dropLast, rotR a', rfl, by rw [List.length_dropLast], rotR_ne a0, rotR_prim a0 pr, by rw [strm_back a0 z h1, eq], fun x hx => ps x ((List.dropLast_sublist _).subset hx), fun x hx => pa x (rotR_mem hx), by rw [rotR_len]; exact la'⟩
        · have h1 : ¬ s'.getLast z = a'.getLast a0 := of_decide_eq_false h1
          rw [last_eq] at h1
          walk_at "run"
          exact ⟨by rw [fin (.inr h1)]; rfl, rfl⟩
end
end Mi
/-! MiRow: rows, plain. -/
namespace Mi
open PySem PySem.Spec PyProof.Rows L2
/-! ### rows, plain -/
def Row.same : Row → Row → Prop
  | .fin l, .fin l' => l = l'
  | .inf s a, .inf s' a' => strm s a = strm s' a'
  | _, _ => False
theorem lean_strm {s a : List D} (h : a ≠ []) : strm (leaned s a).1 (leaned s a).2 = strm s a := (leaned_ok (s := s) h).2.1
theorem lean_ne {s a : List D} (h : a ≠ []) : (leaned s a).2 ≠ [] := (leaned_ok (s := s) h).1.1
theorem bhA_ne {s a : List D} (h : a ≠ []) (k : Nat) : bhA s a k ≠ [] := by
  have hp : 0 < a.length := List.length_pos_iff.mpr h
  unfold bhA
  by_cases q : k ≤ s.length
  · rw [if_pos q]; exact h
  · rw [if_neg q]
    intro z
    have := congrArg List.length z
    rw [List.length_append, List.length_drop, List.length_take] at this
    have hm := Nat.mod_lt (k - s.length) hp
    simp only [List.length_nil] at this
    omega
/-- the lean row of the things behind -/
noncomputable abbrev bL (s a : List D) (k : Nat) : List D × List D := leaned (bhS s k) (bhA s a k)
theorem bL_ne {s a : List D} (h : a ≠ []) (k : Nat) : (bL s a k).2 ≠ [] := lean_ne (bhA_ne h k)
theorem bL_strm {s a : List D} (h : a ≠ []) (k i : Nat) : strm (bL s a k).1 (bL s a k).2 i = strm s a (k + i) := by rw [lean_strm (bhA_ne h k), bh_strm h]
theorem ahead_get {s a : List D} (h : a ≠ []) {k i : Nat} (hi : i < k) : (ahead s a k)[i]? = strm s a i := by
  unfold ahead
  rw [List.getElem?_map, List.getElem?_range hi, stAt_eq h]; rfl
theorem strm_join {s a s' a' t : List D} {k : Nat} (h : a ≠ []) (ht : t.length = k) (h1 : ∀ i, i < k → t[i]? = strm s a i) (h2 : ∀ i, strm s' a' i = strm s a (k + i)) : strm (t ++ s') a' = strm s a := by
  funext i
  rw [strm_app]
  by_cases q : i < t.length
  · rw [if_pos q, h1 i (by omega)]
  · rw [if_neg q, h2]; congr 1; omega
theorem row_e1 {r : Row} (o : r.ok) (k : Nat) : (r.behind k).join (r.ahead k) = r.lean := by
  cases r with
  | fin l => show Row.fin (l.take k ++ l.drop k) = _; rw [List.take_append_drop]; rfl
  | inf s a =>
    have o : IR s a := o
    show Row.inf (leaned (ahead s a k ++ (bL s a k).1) (bL s a k).2).1 (leaned (ahead s a k ++ (bL s a k).1) (bL s a k).2).2 = Row.inf (leaned s a).1 (leaned s a).2
    rw [leaned_eq (bL_ne o.a0 k) o.a0 (strm_join o.a0 ahead_len (fun i hi => ahead_get o.a0 hi) (bL_strm o.a0 k))]
theorem row_e2 {r r2 : Row} (o : r.ok) (o2 : r2.ok) (e : r.same r2) (k : Nat) : r2.behind k = r.behind k := by
  cases r with
  | fin l =>
    cases r2 with
    | fin l' => cases e; rfl
    | inf s a => exact e.elim
  | inf s a =>
    cases r2 with
    | fin l' => exact e.elim
    | inf s' a' =>
      have o : IR s a := o
      have o2 : IR s' a' := o2
      have e : strm s a = strm s' a' := e
      show Row.inf (bL s' a' k).1 (bL s' a' k).2 = Row.inf (bL s a k).1 (bL s a k).2
      rw [show bL s' a' k = bL s a k from leaned_eq (bhA_ne o2.a0 k) (bhA_ne o.a0 k) (funext fun i => by rw [bh_strm o2.a0, bh_strm o.a0, e])]
theorem row_e3 {r r2 : Row} (e : r.same r2) (k : Nat) : r2.ahead k = r.ahead k := by
  cases r with
  | fin l =>
    cases r2 with
    | fin l' => cases e; rfl
    | inf s a => exact e.elim
  | inf s a =>
    cases r2 with
    | fin l' => exact e.elim
    | inf s' a' =>
      have e : strm s a = strm s' a' := e
      show ahead s' a' k = ahead s a k
      unfold ahead stAt
      rw [e]
theorem row_e4 {r : Row} (o : r.ok) (k j : Nat) : (r.behind k).behind j = r.behind (k + j) := by
  cases r with
  | fin l => show Row.fin ((l.drop k).drop j) = Row.fin (l.drop (k + j)); rw [List.drop_drop]
  | inf s a =>
    have o : IR s a := o
    show Row.inf (bL (bL s a k).1 (bL s a k).2 j).1 (bL (bL s a k).1 (bL s a k).2 j).2 = Row.inf (bL s a (k + j)).1 (bL s a (k + j)).2
    rw [show bL (bL s a k).1 (bL s a k).2 j = bL s a (k + j) from leaned_eq (bhA_ne (bL_ne o.a0 k) j) (bhA_ne o.a0 (k + j)) (funext fun i => by
      rw [bh_strm (bL_ne o.a0 k), bL_strm o.a0, bh_strm o.a0, Nat.add_assoc])]
/-- an endless row without one -/
noncomputable abbrev wL (s a : List D) (k : Nat) : List D × List D := leaned (ahead s a k ++ (bL s a (k + 1)).1) (bL s a (k + 1)).2
theorem wL_ne {s a : List D} (h : a ≠ []) (k : Nat) : (wL s a k).2 ≠ [] := lean_ne (bL_ne h (k + 1))
theorem wL_strm {s a : List D} (h : a ≠ []) (k i : Nat) : strm (wL s a k).1 (wL s a k).2 i = if i < k then strm s a i else strm s a (i + 1) := by
  rw [lean_strm (bL_ne h (k + 1)), strm_app, ahead_len]
  by_cases q : i < k
  · rw [if_pos q, if_pos q, ahead_get h q]
  · rw [if_neg q, if_neg q, bL_strm h]; congr 1; omega
theorem row_without {s a : List D} {k : Nat} : (Row.inf s a).without k = .inf (wL s a k).1 (wL s a k).2 := rfl
theorem row_e5 {r : Row} (o : r.ok) {k : Nat} (hk : k < r.len1) : ((r.without k).behind k).join (r.ahead k ++ [r.at k]) = r.lean := by
  cases r with
  | fin l =>
    have hk : k < l.length := hk
    show Row.fin (l.take k ++ [l[k]?.getD .non] ++ (l.take k ++ l.drop (k + 1)).drop k) = Row.fin l
    have : (l.take k ++ l.drop (k + 1)).drop k = l.drop (k + 1) := by
      rw [List.drop_append_of_le_length (by rw [List.length_take]; omega), List.drop_eq_nil_of_le (by rw [List.length_take]; omega), List.nil_append]
    rw [this, List.getElem?_eq_getElem hk, Option.getD_some, List.append_assoc, List.singleton_append, ← List.drop_eq_getElem_cons hk, List.take_append_drop]
  | inf s a =>
    have o : IR s a := o
    have w0 := wL_ne (s := s) o.a0 k
    show Row.inf (leaned (ahead s a k ++ [stAt s a k] ++ (bL (wL s a k).1 (wL s a k).2 k).1) (bL (wL s a k).1 (wL s a k).2 k).2).1 (leaned (ahead s a k ++ [stAt s a k] ++ (bL (wL s a k).1 (wL s a k).2 k).1) (bL (wL s a k).1 (wL s a k).2 k).2).2 = Row.inf (leaned s a).1 (leaned s a).2
    have e : ahead s a k ++ [stAt s a k] = ahead s a (k + 1) := by unfold ahead; rw [List.range_succ, List.map_append]; rfl
    rw [e, leaned_eq (bL_ne w0 k) o.a0 (strm_join o.a0 ahead_len (fun i hi => ahead_get o.a0 hi) (fun i => by
      rw [bL_strm w0, wL_strm o.a0, if_neg (by omega)]; congr 1; omega))]
theorem row_e6 {r r2 : Row} (o : r.ok) (o2 : r2.ok) (e : r.same r2) (k : Nat) : r2.without k = r.without k := by
  unfold Row.without
  rw [row_e2 o o2 e, row_e3 e]
theorem size_sub {k : Nat} {l l' : List D} (p : 0 < sizeW (k + 1) (.tup l)) (s : l'.Sublist l) : 0 < sizeW (k + 1) (.tup l') := by
  obtain ⟨q1, q2, q3, q4⟩ := size_row p
  have h1 := s.length_le
  have h2 : (l'.map (sizeW k)).sum ≤ (l.map (sizeW k)).sum := by
    clear q1 q2 q3 q4 h1 p
    induction s with
    | slnil => exact Nat.le_refl _
    | cons a _ ih => simp only [List.map_cons, List.sum_cons]; omega
    | cons_cons a _ ih => simp only [List.map_cons, List.sum_cons]; omega
  rw [size_tup, if_pos ⟨by omega, fun x hx => q2 x (s.subset hx), by omega⟩]
  omega
theorem worth_sub {l l' : List D} (p : worthD (.tup l) = true) (s : l'.Sublist l) : worthD (.tup l') = true := by
  simp only [worthD, decide_eq_true_eq] at p ⊢
  exact size_sub p s
/-- room for what is asked of it -/
def Row.low (c : Nat) : Row → Prop
  | .fin _ => True
  | .inf s _ => s.length ≤ c
theorem behind_ok' {r : Row} (o : r.ok) (k : Nat) : (r.behind k).ok := by
  cases r with
  | fin l => exact worth_sub o (List.drop_sublist _ _)
  | inf s a => exact (IR.bh o k).lean
theorem bhS_len {s : List D} {k : Nat} : (bhS s k).length ≤ s.length := by
  unfold bhS
  split
  · rw [List.length_drop]; omega
  · simp
theorem behind_low {r : Row} {c : Nat} (o : r.ok) (l : r.low c) (k : Nat) : (r.behind k).low c := by
  cases r with
  | fin l => exact True.intro
  | inf s a =>
    have l : s.length ≤ c := l
    exact Nat.le_trans (leaned_ok (s := bhS s k) (bhA_ne (IR.a0 o) k)).2.2.1 (Nat.le_trans bhS_len l)
theorem join_inf_ok {s a : List D} {k : Nat} (o : IR s a) (hk : k + s.length ≤ 60) : IR (wL s a k).1 (wL s a k).2 := by
  have ib := (o.bh (k + 1)).lean
  have l1 := (leaned_ok (s := bhS s (k + 1)) (bhA_ne (s := s) o.a0 (k + 1))).2.2.1
  have l2 := bhS_len (s := s) (k := k + 1)
  refine IR.lean ⟨?_, ib.la, ib.a0, fun x hx => ?_, ib.sa⟩
  · rw [List.length_append, ahead_len]
    show k + (bL s a (k + 1)).1.length ≤ 60
    have : (bL s a (k + 1)).1.length ≤ s.length := Nat.le_trans l1 l2
    omega
  · rcases List.mem_append.mp hx with q | q
    · exact ahead_small o x q
    · exact ib.ss x q
theorem without_ok' {r : Row} (o : r.ok) (lo : r.low 30) {k : Nat} (hk : k ≤ 30) : (r.without k).ok := by
  cases r with
  | fin l => exact worth_sub o (by show (l.take k ++ l.drop (k + 1)).Sublist l; conv => rhs; rw [← List.take_append_drop k l]
                                   exact (List.Sublist.refl _).append (by rw [← List.drop_drop]; exact List.drop_sublist _ _))
  | inf s a => exact join_inf_ok o (by have l : s.length ≤ 30 := lo; omega)
theorem cyc_rep {a : List D} {k : Nat} (hk : 0 < k) (h : a ≠ []) : cyc (List.replicate k a).flatten = cyc a := by
  have hp : 0 < a.length := List.length_pos_iff.mpr h
  funext i
  unfold cyc
  rw [rep_len]
  have := Nat.mod_lt i (Nat.mul_pos hk hp)
  rw [get_rep hp k _ this, Nat.mod_mul_left_mod]
theorem strm_step {s a : List D} (h : a ≠ []) : strm (s ++ a.take 1) (a.drop 1 ++ a.take 1) = strm s a := by
  have hp : 0 < a.length := List.length_pos_iff.mpr h
  funext i
  rw [strm_app]
  by_cases q : i < s.length
  · rw [if_pos q, strm_lt q]
  · rw [if_neg q, strm_ge (s := s) (by omega)]
    have l1 : (a.take 1).length = 1 := by rw [List.length_take]; omega
    by_cases q2 : i - s.length = 0
    · rw [strm_lt (by omega), q2, List.getElem?_take_of_lt (by omega), cyc_lt hp]
    · rw [strm_ge (by omega), l1]
      by_cases q3 : 1 < a.length
      · rw [cyc_rot q3]; congr 1; omega
      · have : a.length = 1 := by omega
        rw [List.drop_eq_nil_of_le (by omega), List.take_of_length_le (by omega), List.nil_append]
        have e : cyc a (i - s.length) = cyc a (i - s.length - 1) := by
          conv => lhs; rw [show i - s.length = i - s.length - 1 + a.length by omega, cyc_add]
        rw [e]
end Mi
/-! Mi22: repr of data. -/
namespace Mi
open PySem PySem.Spec PyProof.Rows L2
variable {X : Exc → Hh → Prop}
/-- the text of data -/
def rp (d : D) : Str := match d.py with
  | some p => p.shown
  | none => ""
def rokP (p : PyData) : Bool := p.showable && !p.hasDict && decide (p.shown.length ≤ sizeLine) && decide (p.depth ≤ 64)
/-- its text can be told -/
def Rok (d : D) : Prop := ∃ p, d.py = some p ∧ rokP p = true
section
variable {h : Hh} {Q : R → Hh → Prop}
theorem w_reprD {d : D} (ok : Rok d) (p : Q (.dat (.str (rp d))) h) : evX X (Res.of h (bltF h .repr [d])) Q := by
  obtain ⟨y, e, c⟩ := ok
  have e2 : (R.dat d).pyH h = some y := by
    cases d with
    | ref n => simp only [D.py] at e; cases e
    | _ => exact e
  refine w_of (a := .dat (.str y.shown)) ?_ (by unfold rp at p; rw [e] at p; exact p)
  show reprF h [d] = _
  simp only [reprF, e2]
  exact if_pos c
theorem w_reprB {l : List D} (ok : Rok (.lst l)) (p : Q (.dat (.str (rp (.lst l)))) h) : evX X (Res.of h (bltR h .repr (.bor l))) Q := by
  obtain ⟨y, e, c⟩ := ok
  have e2 : (R.bor l).pyH h = some y := by
    simp only [D.py] at e
    exact e
  refine w_of (a := .dat (.str y.shown)) ?_ (by unfold rp at p; rw [e] at p; exact p)
  show reprB h (.bor l) = _
  simp only [reprB, e2]
  exact if_pos c
theorem w_reprBD {d : D} (ok : Rok d) (p : Q (.dat (.str (rp d))) h) : evX X (Res.of h (bltR h .repr (.dat d))) Q := by
  obtain ⟨y, e, c⟩ := ok
  have e2 : (R.dat d).pyH h = some y := by
    cases d with
    | ref n => simp only [D.py] at e; cases e
    | _ => exact e
  refine w_of (a := .dat (.str y.shown)) ?_ (by unfold rp at p; rw [e] at p; exact p)
  show reprB h (.dat d) = _
  simp only [reprB, e2]
  exact if_pos c
end
theorem Rok.of {d : D} {p : PyData} (e : d.py = some p) (h1 : p.showable = true) (h2 : p.canLay0 = true) (h3 : p.intsShort 13 = true) (h4 : p.depth ≤ 64) (h5 : p.weight ≤ 2 ^ 20) : Rok d := by
  refine ⟨p, e, ?_⟩
  unfold rokP
  have l : p.shown.length ≤ sizeLine := PyData.shown_fits_of_layable0 (B := 13) (by decide) (by decide) (by show (p.canLay0 && decide (p.depth ≤ 64) && decide (p.weight ≤ 2 ^ 20)) = true; rw [h2, decide_eq_true h4, decide_eq_true h5]; rfl) h3
  rw [h1, PyData.hasDict_of_canLay p h2, decide_eq_true l, decide_eq_true h4]
  rfl
theorem log_small {i : Int} (h : i.natAbs < 10 ^ 12) : i.natAbs.log2 < 1920 := by
  by_cases z : i.natAbs = 0
  · rw [z]; decide
  · have := (Nat.log2_lt z (k := 40)).mpr (Nat.lt_trans h (by decide))
    omega
theorem Rok.non : Rok .non := Rok.of (p := .none) rfl rfl rfl rfl (by decide) (by decide)
theorem Rok.bl {b : Bool} : Rok (.bl b) := Rok.of (p := .bool b) rfl rfl rfl rfl (Nat.zero_le _) (Nat.zero_le _)
theorem wt_int {i : Int} (h : i.natAbs < 10 ^ 12) : (PyData.int i).weight ≤ 41 := by
  simp only [PyData.weight]
  split
  · omega
  · by_cases z : i.natAbs = 0
    · rw [z]; decide
    · have := (Nat.log2_lt z (k := 40)).mpr (Nat.lt_trans h (by decide))
      omega
theorem Rok.int {i : Int} (h : i.natAbs < 10 ^ 12) : Rok (.int i) :=
  Rok.of (p := .int i) rfl (by simp only [PyData.showable, decide_eq_true_eq]; exact log_small h) rfl (by simp only [PyData.intsShort, decide_eq_true_eq]; exact PyData.shown_int_le h) (Nat.zero_le _) (Nat.le_trans (wt_int h) (by decide))
theorem strs_py : ∀ ws : List Str, pyAll (ws.map .str) = some (ws.map .str)
  | [] => by simp [pyAll]
  | x :: xs => by simp [pyAll, D.py, strs_py xs]
theorem strs_wt : ∀ ws : List Str, PyData.weightAll (ws.map .str) = (ws.map (·.length)).sum + ws.length
  | [] => rfl
  | x :: xs => by
    simp only [List.map_cons, PyData.weightAll, PyData.weight, strs_wt xs, List.sum_cons, List.length_cons]
    show x.length + 1 + _ = _
    omega
theorem strs_dep : ∀ ws : List Str, PyData.depthAll (ws.map .str) = 0
  | [] => rfl
  | x :: xs => by simp [PyData.depthAll, PyData.depth, strs_dep xs]
theorem strs_lay : ∀ {ws : List Str}, (∀ w ∈ ws, PyData.strOk w = true) → PyData.canLayAll0 (ws.map .str) = true
  | [], _ => rfl
  | x :: xs, h => by
    simp only [List.map_cons, PyData.canLayAll0, PyData.canLay0, Bool.and_eq_true]
    exact ⟨h x List.mem_cons_self, strs_lay fun w hw => h w (List.mem_cons_of_mem _ hw)⟩
theorem strs_show : ∀ ws : List Str, PyData.showableAll (ws.map .str) = true
  | [] => rfl
  | x :: xs => by simp only [List.map_cons, PyData.showableAll, PyData.showable, Bool.true_and, strs_show xs]
theorem Rok.strs {ws : List Str} (h : ∀ w ∈ ws, PyData.strOk w = true) (hz : (ws.map (·.length)).sum + ws.length ≤ 2 ^ 20) : Rok (.lst (ws.map .str)) := by
  refine Rok.of (p := .list (ws.map .str)) (by simp only [D.py, strs_py]; rfl) ?_ ?_ ?_ ?_ ?_
  · simp only [PyData.showable]; exact strs_show ws
  · simp only [PyData.canLay0]; exact strs_lay h
  · simp only [PyData.intsShort]; exact PyData.intsShortAll_strs 13 ws
  · simp only [PyData.depth, strs_dep]; decide
  · simp only [PyData.weight, strs_wt]; exact hz
end Mi
/-! Mi23: refusals told; twins; weights of texts. -/
namespace Mi
open PySem PySem.Spec PyProof.Rows L2
variable {X : Exc → Hh → Prop}
def fn__law_class : Fn := ⟨1, 2, (.cons (.asg 1 (.bin .add (.bin .mul (.con (.str "thing")) (.blt .toInt (.cons (.isx (.var 0) "BadThing") .nil))) (.bin .mul (.con (.str "kind")) (.blt .toInt (.cons (.isx (.var 0) "BadKind") .nil))))) (.cons (.asg 1 (.bin .add (.bin .add (.var 1) (.bin .mul (.con (.str "pattern")) (.blt .toInt (.cons (.isx (.var 0) "BadPattern") .nil)))) (.bin .mul (.con (.str "stand")) (.blt .toInt (.cons (.isx (.var 0) "BadStand") .nil))))) (.cons (.asg 1 (.bin .add (.bin .add (.var 1) (.bin .mul (.con (.str "place")) (.blt .toInt (.cons (.isx (.var 0) "BadPlace") .nil)))) (.bin .mul (.con (.str "many")) (.blt .toInt (.cons (.isx (.var 0) "TooMany") .nil))))) (.cons (.asg 1 (.bin .add (.bin .add (.var 1) (.bin .mul (.con (.str "book")) (.blt .toInt (.cons (.isx (.var 0) "BadBook") .nil)))) (.bin .mul (.con (.str "row")) (.blt .toInt (.cons (.isx (.var 0) "BadRow") .nil))))) (.cons (.ret (.ite (.and2 (.isx (.var 0) "ValueError") (.isx (.var 0) "WayError")) (.var 1) (.con (.str "else")))) .nil)))))⟩
def fn__law_field : Fn := ⟨1, 1, (.cons (.ifs (.isx (.var 0) "BadBook") (.cons (.ret (.tup (.cons (.call "_law_class" (.cons (.var 0) .nil)) (.cons (.ite (.isi (.attr (.var 0) "rule") .bool) (.con (.str "x")) (.attr (.var 0) "rule")) .nil)))) .nil) .nil) (.cons (.ifs (.not1 (.isx (.var 0) "BadRow")) (.cons (.ret (.tup (.cons (.call "_law_class" (.cons (.var 0) .nil)) .nil))) .nil) .nil) (.cons (.ret (.ite (.or2 (.isi (.attr (.var 0) "row") .bool) (.isi (.attr (.var 0) "word") .bool)) (.tup (.cons (.con (.str "x")) .nil)) (.tup (.cons (.con (.str "row")) (.cons (.attr (.var 0) "row") (.cons (.attr (.var 0) "word") .nil)))))) .nil)))⟩
def fn__law_twin : Fn := ⟨1, 2, (.cons (.ifs (.isi (.var 0) .tuple) (.cons (.ret (.blt .toTuple (.cons (.comp [1] (.nm 1) (.seq (.var 0)) (.con (.bl true)) (.call "_law_twin" (.cons (.var 1) .nil))) .nil))) .nil) .nil) (.cons (.ret (.ite (.and2 (.isi (.var 0) .int) (.chain .le .le (.con (.int 0)) (.var 0) (.con (.int 1)))) (.cmp .eq (.var 0) (.con (.int 1))) (.var 0))) .nil))⟩
local macro_rules | `(tactic| walk_at "run") => `(tactic| repeat (first
  | with_reducible refine w_notT ?_ | with_reducible refine w_notF ?_
  | with_reducible refine w_con ?_ | ((with_reducible refine' w_var ?e ?_); case e => rfl)
  | with_reducible refine w_bin ?_ | with_reducible refine w_fzD ?_ | with_reducible refine w_bind ?_ | with_reducible refine w_ok ?_
  | with_reducible refine w_addI ?_ | with_reducible refine w_subI ?_
  | with_reducible refine w_cons ?_ | with_reducible refine w_nil ?_ | with_reducible refine w_call ?_
  | with_reducible refine v_cons ?_ | ((with_reducible refine v_contN ?_); try simp only [setV, List.set_cons_succ, List.set_cons_zero]) | with_reducible refine v_contR ?_ | with_reducible refine v_asg ?_ | with_reducible refine v_ret ?_ | with_reducible refine v_retD ?_ | with_reducible refine v_endR ?_
  | with_reducible refine v_nil ?_ | with_reducible refine v_ifs ?_ | with_reducible refine w_brt ?_ | with_reducible refine w_brf ?_
  | with_reducible refine w_and ?_ | with_reducible refine w_or ?_ | with_reducible refine w_not ?_ | with_reducible refine w_notR ?_ | with_reducible refine w_ite ?_
  | with_reducible refine w_cmp ?_ | with_reducible refine w_chain ?_ | with_reducible refine w_ltI ?_ | with_reducible refine w_leI ?_ | with_reducible refine w_gtI ?_ | with_reducible refine w_geI ?_ | with_reducible refine w_eqI ?_
  | with_reducible refine w_isi ?_ | with_reducible refine w_blt ?_ | with_reducible refine w_ix ?_ | with_reducible refine w_dget ?_
  | ((with_reducible refine' w_modI ?e ?_); case e => (first | decide | omega))
  | ((with_reducible refine' w_fdivI ?e ?_); case e => (first | decide | omega))
  | ((with_reducible refine' w_mulI ?e ?_); case e => (first | exact near_r (by decide) | exact near_l (by decide) | exact near_ro (by omega) (by omega) | exact near_lo (by omega) (by omega)))
  | ((with_reducible refine' w_powI ?e ?_); case e => decide)
  | with_reducible refine w_neg ?_ | with_reducible refine w_negI ?_
  | with_reducible refine w_tup ?_ | with_reducible refine w_lst ?_ | ((with_reducible refine' w_lenR ?e ?_); case e => (first | decide | (simp only [List.length_cons, List.length_nil, Nat.zero_add, Nat.reduceAdd]; decide)))
  | with_reducible refine w_fzN ?_ | ((with_reducible refine' w_glo ?e ?_); case e => (first | assumption | rfl))
  | with_reducible refine w_sl ?_ | with_reducible refine w_ono ?_ | with_reducible refine w_opart ?_ | with_reducible refine w_intR ?_ | with_reducible refine w_strR ?_ | with_reducible refine w_tupR ?_ | with_reducible refine w_newR ?_ | ((with_reducible refine' w_optR ?e ?_); case e => rfl)
  | with_reducible refine w_mth ?_ | with_reducible refine w_comp ?_ | with_reducible refine w_seq ?_ | with_reducible refine w_rng1 ?_ | with_reducible refine w_rng2 ?_ | with_reducible refine w_rng3 ?_ | with_reducible refine w_enum ?_ | ((with_reducible refine' w_rng1R ?e ?_); case e => exact rng_ok1 (by omega) (by omega)) | ((with_reducible refine' w_rngR ?e ?_); case e => exact rng_ok2 (by omega) (by omega) (by omega) (by omega)) | ((with_reducible refine' w_rngD ?e ?_); case e => exact rng_ok2 (by omega) (by omega) (by omega) (by omega))
  | with_reducible refine w_promo ?_ | with_reducible refine w_proN ?_ | with_reducible refine w_proD ?_ | with_reducible refine w_dct ?_ | ((with_reducible refine' w_dctR ?e ?_); case e => decide)
  | with_reducible refine v_own ?_ | with_reducible refine v_any ?_ | with_reducible refine v_anyN ?_ | with_reducible refine v_anyD ?_ | with_reducible refine w_blt1 ?_ | with_reducible refine v_asgs ?_ | with_reducible refine v_setL ?_ | with_reducible refine v_setD ?_ | with_reducible refine v_setOwn ?_ | ((with_reducible refine' v_ownR ?e ?_); case e => rfl)
  | ((with_reducible refine' v_app ?e ?_); case e => rfl) | ((with_reducible refine' v_ext ?e ?_); case e => rfl) | with_reducible refine v_expr ?_ | with_reducible refine v_for ?_ | with_reducible refine v_whl ?_
  | ((with_reducible refine' v_retV ?e ?_); case e => rfl) | with_reducible refine v_retn ?_ | with_reducible refine v_pass ?_ | with_reducible refine v_brk ?_ | with_reducible refine v_cnt ?_ | ((with_reducible refine' v_frz ?e ?_); case e => rfl)
  | with_reducible refine v_contB ?_ | with_reducible refine v_contC ?_ | with_reducible refine v_retN ?_ | with_reducible refine v_endN ?_ | with_reducible refine w_compG ?_
  | ((with_reducible refine' w_varO ?e ?_); case e => rfl)
  | ((with_reducible refine' w_dgetK ?e ?q ?_); (case e => first | assumption | rfl); (case q => rfl); (try dsimp only))
  | with_reducible refine w_lenT ?_ | with_reducible refine w_lenLs ?_ | with_reducible refine w_slT ?_ | with_reducible refine w_slL ?_ | with_reducible refine w_tupN ?_ | with_reducible refine w_seqT ?_ | with_reducible refine w_seqL ?_ | with_reducible refine w_seqN ?_ | with_reducible refine w_intB ?_ | with_reducible refine w_intI ?_ | with_reducible refine w_neI ?_
  | with_reducible refine w_isi_int_non ?_ | with_reducible refine w_isi_int_bl ?_ | with_reducible refine w_isi_int_int ?_ | with_reducible refine w_isi_int_str ?_ | with_reducible refine w_isi_int_tup ?_ | with_reducible refine w_isi_int_lst ?_ | with_reducible refine w_isi_bool_non ?_ | with_reducible refine w_isi_bool_bl ?_ | with_reducible refine w_isi_bool_int ?_ | with_reducible refine w_isi_bool_str ?_ | with_reducible refine w_isi_bool_tup ?_ | with_reducible refine w_isi_bool_lst ?_ | with_reducible refine w_isi_str_non ?_ | with_reducible refine w_isi_str_bl ?_ | with_reducible refine w_isi_str_int ?_ | with_reducible refine w_isi_str_str ?_ | with_reducible refine w_isi_str_tup ?_ | with_reducible refine w_isi_str_lst ?_ | with_reducible refine w_isi_tuple_non ?_ | with_reducible refine w_isi_tuple_bl ?_ | with_reducible refine w_isi_tuple_int ?_ | with_reducible refine w_isi_tuple_str ?_ | with_reducible refine w_isi_tuple_tup ?_ | with_reducible refine w_isi_tuple_lst ?_ | with_reducible refine w_isi_list_non ?_ | with_reducible refine w_isi_list_bl ?_ | with_reducible refine w_isi_list_int ?_ | with_reducible refine w_isi_list_str ?_ | with_reducible refine w_isi_list_tup ?_ | with_reducible refine w_isi_list_lst ?_
  | with_reducible refine w_lrng1 ?_ | with_reducible refine w_lrng2 ?_ | ((with_reducible refine' w_lrngR ?e ?_); case e => (refine ⟨?_, ?_, ?_, ?_, ?_⟩ <;> omega)) | with_reducible refine w_lrngR2 ?_ | with_reducible refine w_max2 ?_ | with_reducible refine w_min2 ?_ | with_reducible refine w_zip ?_ | with_reducible refine w_zipT ?_ | with_reducible refine w_zipL ?_ | with_reducible refine w_zipLN ?_
  | with_reducible refine w_fnv ?_ | with_reducible refine w_isx ?_ | with_reducible refine w_attr ?_ | ((with_reducible refine' w_attrR ?e ?_); case e => rfl) | ((with_reducible refine' w_callv ?e ?_); case e => rfl) | with_reducible refine w_told ?_ | with_reducible refine v_raise ?_
  | ((with_reducible refine' w_ixT ?e ?_); case e => rfl)
  | ((with_reducible refine' w_brd ?e ?_); case e => omega)
  | ((with_reducible refine' w_brn ?e ?_); case e => omega)
  | ((with_reducible refine' w_brnd ?e ?_); case e => omega)
  | ((with_reducible refine' w_brnn ?e ?_); case e => omega)
  | ((with_reducible refine' w_brp ?e ?_); case e => assumption)
  | ((with_reducible refine' w_brq ?e ?_); case e => assumption)))
local macro_rules | `(tactic| walk_at "one") => `(tactic| (first
  | with_reducible refine w_notT ?_ | with_reducible refine w_notF ?_
  | with_reducible refine w_con ?_ | ((with_reducible refine' w_var ?e ?_); case e => rfl)
  | with_reducible refine w_bin ?_ | with_reducible refine w_fzD ?_ | with_reducible refine w_bind ?_ | with_reducible refine w_ok ?_
  | with_reducible refine w_addI ?_ | with_reducible refine w_subI ?_
  | with_reducible refine w_cons ?_ | with_reducible refine w_nil ?_ | with_reducible refine w_call ?_
  | with_reducible refine v_cons ?_ | ((with_reducible refine v_contN ?_); try simp only [setV, List.set_cons_succ, List.set_cons_zero]) | with_reducible refine v_contR ?_ | with_reducible refine v_asg ?_ | with_reducible refine v_ret ?_ | with_reducible refine v_retD ?_ | with_reducible refine v_endR ?_
  | with_reducible refine v_nil ?_ | with_reducible refine v_ifs ?_ | with_reducible refine w_brt ?_ | with_reducible refine w_brf ?_
  | with_reducible refine w_and ?_ | with_reducible refine w_or ?_ | with_reducible refine w_not ?_ | with_reducible refine w_notR ?_ | with_reducible refine w_ite ?_
  | with_reducible refine w_cmp ?_ | with_reducible refine w_chain ?_ | with_reducible refine w_ltI ?_ | with_reducible refine w_leI ?_ | with_reducible refine w_gtI ?_ | with_reducible refine w_geI ?_ | with_reducible refine w_eqI ?_
  | with_reducible refine w_isi ?_ | with_reducible refine w_blt ?_ | with_reducible refine w_ix ?_ | with_reducible refine w_dget ?_
  | ((with_reducible refine' w_modI ?e ?_); case e => (first | decide | omega))
  | ((with_reducible refine' w_fdivI ?e ?_); case e => (first | decide | omega))
  | ((with_reducible refine' w_mulI ?e ?_); case e => (first | exact near_r (by decide) | exact near_l (by decide) | exact near_ro (by omega) (by omega) | exact near_lo (by omega) (by omega)))
  | ((with_reducible refine' w_powI ?e ?_); case e => decide)
  | with_reducible refine w_neg ?_ | with_reducible refine w_negI ?_
  | with_reducible refine w_tup ?_ | with_reducible refine w_lst ?_ | ((with_reducible refine' w_lenR ?e ?_); case e => (first | decide | (simp only [List.length_cons, List.length_nil, Nat.zero_add, Nat.reduceAdd]; decide)))
  | with_reducible refine w_fzN ?_ | ((with_reducible refine' w_glo ?e ?_); case e => (first | assumption | rfl))
  | with_reducible refine w_sl ?_ | with_reducible refine w_ono ?_ | with_reducible refine w_opart ?_ | with_reducible refine w_intR ?_ | with_reducible refine w_strR ?_ | with_reducible refine w_tupR ?_ | with_reducible refine w_newR ?_ | ((with_reducible refine' w_optR ?e ?_); case e => rfl)
  | with_reducible refine w_mth ?_ | with_reducible refine w_comp ?_ | with_reducible refine w_seq ?_ | with_reducible refine w_rng1 ?_ | with_reducible refine w_rng2 ?_ | with_reducible refine w_rng3 ?_ | with_reducible refine w_enum ?_ | ((with_reducible refine' w_rng1R ?e ?_); case e => exact rng_ok1 (by omega) (by omega)) | ((with_reducible refine' w_rngR ?e ?_); case e => exact rng_ok2 (by omega) (by omega) (by omega) (by omega)) | ((with_reducible refine' w_rngD ?e ?_); case e => exact rng_ok2 (by omega) (by omega) (by omega) (by omega))
  | with_reducible refine w_promo ?_ | with_reducible refine w_proN ?_ | with_reducible refine w_proD ?_ | with_reducible refine w_dct ?_ | ((with_reducible refine' w_dctR ?e ?_); case e => decide)
  | with_reducible refine v_own ?_ | with_reducible refine v_any ?_ | with_reducible refine v_anyN ?_ | with_reducible refine v_anyD ?_ | with_reducible refine w_blt1 ?_ | with_reducible refine v_asgs ?_ | with_reducible refine v_setL ?_ | with_reducible refine v_setD ?_ | with_reducible refine v_setOwn ?_ | ((with_reducible refine' v_ownR ?e ?_); case e => rfl)
  | ((with_reducible refine' v_app ?e ?_); case e => rfl) | ((with_reducible refine' v_ext ?e ?_); case e => rfl) | with_reducible refine v_expr ?_ | with_reducible refine v_for ?_ | with_reducible refine v_whl ?_
  | ((with_reducible refine' v_retV ?e ?_); case e => rfl) | with_reducible refine v_retn ?_ | with_reducible refine v_pass ?_ | with_reducible refine v_brk ?_ | with_reducible refine v_cnt ?_ | ((with_reducible refine' v_frz ?e ?_); case e => rfl)
  | with_reducible refine v_contB ?_ | with_reducible refine v_contC ?_ | with_reducible refine v_retN ?_ | with_reducible refine v_endN ?_ | with_reducible refine w_compG ?_
  | ((with_reducible refine' w_varO ?e ?_); case e => rfl)
  | ((with_reducible refine' w_dgetK ?e ?q ?_); (case e => first | assumption | rfl); (case q => rfl); (try dsimp only))
  | with_reducible refine w_lenT ?_ | with_reducible refine w_lenLs ?_ | with_reducible refine w_slT ?_ | with_reducible refine w_slL ?_ | with_reducible refine w_tupN ?_ | with_reducible refine w_seqT ?_ | with_reducible refine w_seqL ?_ | with_reducible refine w_seqN ?_ | with_reducible refine w_intB ?_ | with_reducible refine w_intI ?_ | with_reducible refine w_neI ?_
  | with_reducible refine w_isi_int_non ?_ | with_reducible refine w_isi_int_bl ?_ | with_reducible refine w_isi_int_int ?_ | with_reducible refine w_isi_int_str ?_ | with_reducible refine w_isi_int_tup ?_ | with_reducible refine w_isi_int_lst ?_ | with_reducible refine w_isi_bool_non ?_ | with_reducible refine w_isi_bool_bl ?_ | with_reducible refine w_isi_bool_int ?_ | with_reducible refine w_isi_bool_str ?_ | with_reducible refine w_isi_bool_tup ?_ | with_reducible refine w_isi_bool_lst ?_ | with_reducible refine w_isi_str_non ?_ | with_reducible refine w_isi_str_bl ?_ | with_reducible refine w_isi_str_int ?_ | with_reducible refine w_isi_str_str ?_ | with_reducible refine w_isi_str_tup ?_ | with_reducible refine w_isi_str_lst ?_ | with_reducible refine w_isi_tuple_non ?_ | with_reducible refine w_isi_tuple_bl ?_ | with_reducible refine w_isi_tuple_int ?_ | with_reducible refine w_isi_tuple_str ?_ | with_reducible refine w_isi_tuple_tup ?_ | with_reducible refine w_isi_tuple_lst ?_ | with_reducible refine w_isi_list_non ?_ | with_reducible refine w_isi_list_bl ?_ | with_reducible refine w_isi_list_int ?_ | with_reducible refine w_isi_list_str ?_ | with_reducible refine w_isi_list_tup ?_ | with_reducible refine w_isi_list_lst ?_
  | with_reducible refine w_lrng1 ?_ | with_reducible refine w_lrng2 ?_ | ((with_reducible refine' w_lrngR ?e ?_); case e => (refine ⟨?_, ?_, ?_, ?_, ?_⟩ <;> omega)) | with_reducible refine w_lrngR2 ?_ | with_reducible refine w_max2 ?_ | with_reducible refine w_min2 ?_ | with_reducible refine w_zip ?_ | with_reducible refine w_zipT ?_ | with_reducible refine w_zipL ?_ | with_reducible refine w_zipLN ?_
  | with_reducible refine w_fnv ?_ | with_reducible refine w_isx ?_ | with_reducible refine w_attr ?_ | ((with_reducible refine' w_attrR ?e ?_); case e => rfl) | ((with_reducible refine' w_callv ?e ?_); case e => rfl) | with_reducible refine w_told ?_ | with_reducible refine v_raise ?_
  | ((with_reducible refine' w_ixT ?e ?_); case e => rfl)
  | ((with_reducible refine' w_brd ?e ?_); case e => omega)
  | ((with_reducible refine' w_brn ?e ?_); case e => omega)
  | ((with_reducible refine' w_brnd ?e ?_); case e => omega)
  | ((with_reducible refine' w_brnn ?e ?_); case e => omega)
  | ((with_reducible refine' w_brp ?e ?_); case e => assumption)
  | ((with_reducible refine' w_brq ?e ?_); case e => assumption)))

/-! ### what a refusal tells -/
def words : List (Str × Str) := [("BadThing", "thing"), ("BadKind", "kind"), ("BadPattern", "pattern"), ("BadStand", "stand"), ("BadPlace", "place"), ("TooMany", "many")]
section
variable {T : Tab} {G : Str → Option D} {n : Nat} {h : Hh}
theorem class_ok (hT : T "_law_class" = some fn__law_class) {k w : Str} (hk : (k, w) ∈ words) : run T G (n + 1) "_law_class" [.sp true k []] h = .ok (.dat (.str w)) h := by
  rw [run_s hT _ _ rfl]
  unfold words at hk
  simp only [List.mem_cons, List.not_mem_nil, or_false, Prod.mk.injEq] at hk
  rcases hk with ⟨rfl, rfl⟩ | ⟨rfl, rfl⟩ | ⟨rfl, rfl⟩ | ⟨rfl, rfl⟩ | ⟨rfl, rfl⟩ | ⟨rfl, rfl⟩ <;> kernel_rfl
theorem field_ok (hT : T "_law_class" = some fn__law_class) (hF : T "_law_field" = some fn__law_field) {k w : Str} (hk : (k, w) ∈ words) : run T G (n + 2) "_law_field" [.sp true k []] h = .ok (.dat (.tup [.str w])) h := by
  refine ev_eq (v_run hF rfl ?_)
  have hb : isxF k "BadBook" = some false ∧ isxF k "BadRow" = some false := by
    unfold words at hk
    simp only [List.mem_cons, List.not_mem_nil, or_false, Prod.mk.injEq] at hk
    rcases hk with ⟨rfl, rfl⟩ | ⟨rfl, rfl⟩ | ⟨rfl, rfl⟩ | ⟨rfl, rfl⟩ | ⟨rfl, rfl⟩ | ⟨rfl, rfl⟩ <;> exact ⟨by decide +kernel, by decide +kernel⟩
  unfold fn__law_field
  simp only [Fn.env, List.map_cons, List.map_nil, Nat.reduceSub, List.replicate_succ, List.replicate_zero, List.cons_append, List.nil_append]
  walk_at "run"
  refine w_isxR hb.1 ?_
  walk_at "run"
  refine w_isxR hb.2 ?_
  walk_at "run"
  refine ev_of (class_ok hT hk) ?_
  walk_at "run"
  exact ⟨rfl, rfl⟩
end
/-- what told makes of an answer -/
inductive Toldr (h : Hh) : Res R → D → Prop where
  | ok {d : D} : Toldr h (.ok (.dat d) h) (.lst [d])
  | ex {k w : Str} : (k, w) ∈ words → Toldr h (.ex ⟨k, []⟩ h) (.tup [.str w])
section
variable {T : Tab} {G : Str → Option D} {n : Nat} {h : Hh} {Q : R → Hh → Prop}
theorem told_one {r : Res R} {a : D} (t : Toldr h r a) (hT : T "_law_class" = some fn__law_class) (hF : T "_law_field" = some fn__law_field) (p : ∀ x, x.fz = some a → Q x h) :
    evX (fun x h1 => evX noX (run T G (n + 2) "_law_field" [.sp true x.cls x.fs] h1) Q) r fun r h1 => evX X (fzR r fun d => .ok (.new [d]) h1) Q := by
  cases t with
  | ok => exact p _ rfl
  | ex hk =>
    show evX noX (run T G (n + 2) "_law_field" [.sp true _ []] h) Q
    exact ev_of (field_ok hT hF hk) (p _ rfl)
end
/-! ### twins -/
/-- truths for its 0s and 1s -/
def twinW : Nat → D → D
  | k + 1, .tup l => .tup (l.map (twinW k))
  | _, .int i => if 0 ≤ i ∧ i ≤ 1 then .bl (decide (i = 1)) else .int i
  | _, d => d
theorem twin_non {k : Nat} : twinW k .non = .non := by cases k <;> rfl
theorem twin_int {k : Nat} {i : Int} : twinW k (.int i) = if 0 ≤ i ∧ i ≤ 1 then .bl (decide (i = 1)) else .int i := by cases k <;> rfl
theorem twin_str {k : Nat} {s : Str} : twinW k (.str s) = .str s := by cases k <;> rfl
theorem twin_lst {k : Nat} {s : List D} : twinW k (.lst s) = .lst s := by cases k <;> rfl
theorem twin_tup {k : Nat} {l : List D} : twinW (k + 1) (.tup l) = .tup (l.map (twinW k)) := rfl
/-- where a twin has no truths it is the thing itself -/
theorem twin_pl : ∀ {k j : Nat} {d : D}, Pl k d → Pl j (twinW k d) → twinW k d = d
  | k, j, .non, _, _ => twin_non
  | k, j, .str s, _, _ => twin_str
  | k, j, .lst s, _, _ => twin_lst
  | k, j, .int i, _, q => by
    rw [twin_int] at q ⊢
    split at q
    · cases j <;> exact q.elim
    · rename_i z; rw [if_neg z]
  | 0, _, .tup l, p, _ => p.elim
  | k + 1, 0, .tup l, _, q => q.elim
  | k + 1, j + 1, .tup l, p, q => by
    have p : ∀ x ∈ l, Pl k x := p
    have q : ∀ y ∈ l.map (twinW k), Pl j y := q
    rw [twin_tup]
    congr 1
    conv => rhs; rw [← List.map_id l]
    exact List.map_congr_left fun x hx => twin_pl (p x hx) (q _ (List.mem_map_of_mem hx))
  | 0, _, .bl _, p, _ => p.elim
  | k + 1, _, .bl _, p, _ => p.elim
  | 0, _, .arg _, p, _ => p.elim
  | k + 1, _, .arg _, p, _ => p.elim
  | 0, _, .ref _, p, _ => p.elim
  | k + 1, _, .ref _, p, _ => p.elim
  | 0, _, .sp _ _ _, p, _ => p.elim
  | k + 1, _, .sp _ _ _, p, _ => p.elim
theorem thing_pl {d : D} (t : thingD d = true) : Pl 8 d := by
  unfold thingD at t
  rw [Bool.or_eq_true] at t
  rcases t with t | t
  · exact (worth_pl t).le (by omega)
  · unfold endlessD at t
    split at t
    · rename_i s x y
      have t0 := t
      simp only [Bool.and_eq_true, decide_eq_true_eq] at t
      obtain ⟨⟨rfl, h1⟩, h2⟩ := t
      have tt : ∀ {a b : Nat} {z : D}, smallsD a b z = true → ∃ l, z = .tup l ∧ ∀ x ∈ l, smallD x = true := fun {a b z} e => by
        unfold smallsD at e
        split at e
        · simp only [Bool.and_eq_true, List.all_eq_true] at e
          exact ⟨_, rfl, e.2⟩
        · cases e
      obtain ⟨l1, rfl, g1⟩ := tt h1
      obtain ⟨l2, rfl, g2⟩ := tt h2
      refine Pl.tup fun z hz => ?_
      simp only [List.mem_cons, List.not_mem_nil, or_false] at hz
      rcases hz with rfl | rfl | rfl
      · exact .str strOk_endless
      · exact Pl.tup fun z hz => small_pl (g1 z hz)
      · exact Pl.tup fun z hz => small_pl (g2 z hz)
    · cases t
theorem twin_thing {k : Nat} {d : D} (p : Pl k d) (h : twinW k d ≠ d) : thingD (twinW k d) = false := by
  cases e : thingD (twinW k d) with
  | false => rfl
  | true => exact absurd (twin_pl p (thing_pl e)) h
theorem twin_sn {h : Hh} : ∀ {j k : Nat} {d : D}, Pl k d → Sn h j (twinW k d)
  | j, k, .non, _ => by rw [twin_non]; cases j <;> exact rfl
  | j, k, .str s, p => by rw [twin_str]; exact Sn.of_pl p
  | j, k, .lst s, p => by rw [twin_lst]; exact Sn.of_pl p
  | j, k, .int i, p => by
    rw [twin_int]
    split
    · cases j <;> exact rfl
    · cases j <;> exact rfl
  | j, 0, .tup l, p => p.elim
  | 0, k + 1, .tup l, p => by rw [twin_tup]; exact rfl
  | j + 1, k + 1, .tup l, p => by
    have p : ∀ x ∈ l, Pl k x := p
    rw [twin_tup]
    intro y hy
    obtain ⟨x, hx, rfl⟩ := List.mem_map.mp hy
    exact twin_sn (p x hx)
  | _, 0, .bl _, p => p.elim
  | _, k + 1, .bl _, p => p.elim
  | _, 0, .arg _, p => p.elim
  | _, k + 1, .arg _, p => p.elim
  | _, 0, .ref _, p => p.elim
  | _, k + 1, .ref _, p => p.elim
  | _, 0, .sp _ _ _, p => p.elim
  | _, k + 1, .sp _ _ _, p => p.elim
/-- all rows of data have at most a thousand things -/
def Wide : Nat → D → Prop
  | k + 1, .tup l => l.length ≤ 1000 ∧ ∀ x ∈ l, Wide k x
  | _, _ => True
theorem size_wide : ∀ {k : Nat} {d : D}, 0 < sizeW k d → Wide k d
  | 0, d, _ => by cases d <;> exact True.intro
  | k + 1, .tup l, p => by
    obtain ⟨q1, q2, _⟩ := size_row p
    exact ⟨by omega, fun x hx => size_wide (q2 x hx)⟩
  | k + 1, .non, _ => True.intro
  | k + 1, .bl _, _ => True.intro
  | k + 1, .int _, _ => True.intro
  | k + 1, .str _, _ => True.intro
  | k + 1, .lst _, _ => True.intro
  | k + 1, .arg _, _ => True.intro
  | k + 1, .ref _, _ => True.intro
  | k + 1, .sp _ _ _, _ => True.intro
theorem Wide.le : ∀ {k j : Nat} {d : D}, Wide k d → Pl k d → k ≤ j → Wide j d
  | k, 0, d, _, _, _ => by cases d <;> exact True.intro
  | 0, j + 1, .tup l, _, p, _ => p.elim
  | k + 1, j + 1, .tup l, w, p, hj => ⟨w.1, fun x hx => Wide.le (w.2 x hx) ((show ∀ x ∈ l, Pl k x from p) x hx) (by omega)⟩
  | k, j + 1, .non, _, _, _ => True.intro
  | k, j + 1, .bl _, _, _, _ => True.intro
  | k, j + 1, .int _, _, _, _ => True.intro
  | k, j + 1, .str _, _, _, _ => True.intro
  | k, j + 1, .lst _, _, _, _ => True.intro
  | k, j + 1, .arg _, _, _, _ => True.intro
  | k, j + 1, .ref _, _, _, _ => True.intro
  | k, j + 1, .sp _ _ _, _, _, _ => True.intro
theorem Row.ok.wide : ∀ {r : Row}, r.ok → Wide 8 r.d
  | .fin l, w => Wide.le (size_wide (k := 6) (d := .tup l) (by have w : worthD (.tup l) = true := w; simpa [worthD] using w)) (worth_pl w) (by omega)
  | .inf s a, i => by
    have i : IR s a := i
    have one : ∀ x, smallD x = true → Wide 6 x := fun x hx => size_wide (by have := small_worth hx; simpa [worthD] using this)
    refine ⟨show 3 ≤ 1000 by omega, fun x hx => ?_⟩
    simp only [List.mem_cons, List.not_mem_nil, or_false] at hx
    rcases hx with rfl | rfl | rfl
    · exact True.intro
    · exact ⟨by have := i.ls; omega, fun x hx => one x (i.ss x hx)⟩
    · exact ⟨by have := i.la; omega, fun x hx => one x (i.sa x hx)⟩
section
variable {T : Tab} {G : Str → Option D} {n : Nat} {h : Hh}
theorem twin_step (hT : T "_law_twin" = some fn__law_twin) (k : Nat) (ih : ∀ j, k = j + 1 → ∀ (n : Nat) (d : D), Pl j d → Wide j d → run T G (n + j + 1) "_law_twin" [d] h = .ok (.dat (twinW j d)) h)
    (n : Nat) (d : D) (p : Pl k d) (wd : Wide k d) : run T G (n + k + 1) "_law_twin" [d] h = .ok (.dat (twinW k d)) h := by
  refine ev_eq (v_run hT rfl ?_)
  unfold fn__law_twin
  simp only [Fn.env, List.map_cons, List.map_nil, Nat.reduceSub, List.replicate_succ, List.replicate_zero, List.cons_append, List.nil_append]
  walk_at "run"
  cases d with
  | tup l =>
    cases k with
    | zero => exact p.elim
    | succ k =>
      have p : ∀ x ∈ l, Pl k x := p
      have wd : l.length ≤ 1000 ∧ ∀ x ∈ l, Wide k x := wd
      walk_at "run"
      have fact : compR (run T G (n + (k + 1))) G [1] (.nm 1) (.con (.bl true)) (.call "_law_twin" (.cons (.var 1) .nil)) [.val (.tup l), .un] l h = .ok (.new (l.map (twinW k))) h := by
        unfold compR
        rw [comp_map (twinW k) (by rw [sizeLine_eq]; simp only [List.length_nil]; omega) fun x hx => ?_]
        · rw [List.nil_append]
        · refine ev_eq ?_
          show evX _ (compG _ _ _ _ _ h) _
          walk_at "run"
          refine ev_of (ih k rfl n x (p x hx) (wd.2 x hx)) ?_
          walk_at "run"
          exact ⟨rfl, rfl⟩
      refine ev_of fact ?_
      walk_at "run"
      exact ⟨rfl, rfl⟩
  | int i =>
    walk_at "run"
    rw [twin_int]
    refine ev_br (fun h1 => ?_) (fun h1 => ?_)
    · walk_at "run"
      have h1 := of_decide_eq_true h1
      refine ev_br (fun h2 => ?_) (fun h2 => ?_)
      · have h2 := of_decide_eq_true h2
        walk_at "run"
        rw [if_pos ⟨by omega, by omega⟩]
        exact ⟨rfl, rfl⟩
      · have h2 := of_decide_eq_false h2
        walk_at "run"
        rw [if_neg (by omega)]
        exact ⟨rfl, rfl⟩
    · walk_at "run"
      have h1 := of_decide_eq_false h1
      rw [if_neg (by omega)]
      exact ⟨rfl, rfl⟩
  | non => walk_at "run"; exact ⟨by rw [twin_non], rfl⟩
  | str s => walk_at "run"; exact ⟨by rw [twin_str], rfl⟩
  | lst s => walk_at "run"; exact ⟨by rw [twin_lst], rfl⟩
  | bl b => cases k <;> exact p.elim
  | arg b => cases k <;> exact p.elim
  | ref b => cases k <;> exact p.elim
  | sp b x l => cases k <;> exact p.elim
theorem twin_ok (hT : T "_law_twin" = some fn__law_twin) : ∀ (k n : Nat) (d : D), Pl k d → Wide k d → run T G (n + k + 1) "_law_twin" [d] h = .ok (.dat (twinW k d)) h
  | 0, n, d, p, w => twin_step hT 0 (fun j e => by cases e) n d p w
  | k + 1, n, d, p, w => twin_step hT (k + 1) (fun j e => by cases e; exact twin_ok hT k) n d p w
end
/-! ### weights -/
/-- its text can be told: so deep, so heavy -/
def Tr (k w : Nat) (d : D) : Prop := ∃ p, d.py = some p ∧ p.canLay0 = true ∧ p.showable = true ∧ p.intsShort 13 = true ∧ p.depth ≤ k ∧ p.weight ≤ w
theorem Tr.rok {k w : Nat} {d : D} (t : Tr k w d) (hk : k ≤ 64 := by omega) (hw : w ≤ 1048576 := by omega) : Rok d := by
  obtain ⟨p, e, h1, h2, h3, h4, h5⟩ := t
  exact Rok.of e h2 h1 h3 (by omega) (by omega)
theorem Tr.le {k w k' w' : Nat} {d : D} (t : Tr k w d) (hk : k ≤ k' := by omega) (hw : w ≤ w' := by omega) : Tr k' w' d := by
  obtain ⟨p, e, h1, h2, h3, h4, h5⟩ := t
  exact ⟨p, e, h1, h2, h3, by omega, by omega⟩
theorem Tr.non : Tr 0 0 .non := ⟨.none, by simp [D.py], rfl, rfl, rfl, Nat.le_refl _, Nat.le_refl _⟩
theorem Tr.bl {b : Bool} : Tr 0 0 (.bl b) := ⟨.bool b, by simp [D.py], rfl, rfl, rfl, Nat.le_refl _, Nat.le_refl _⟩
theorem Tr.int {i : Int} (h : i.natAbs < 10 ^ 12) : Tr 0 41 (.int i) :=
  ⟨.int i, by simp [D.py], rfl, by simp only [PyData.showable, decide_eq_true_eq]; exact log_small h, by simp only [PyData.intsShort, decide_eq_true_eq]; exact PyData.shown_int_le h, Nat.le_refl _, wt_int h⟩
theorem Tr.str {s : Str} (h : PyData.strOk s = true) : Tr 0 s.length (.str s) := ⟨.str s, by simp [D.py], h, rfl, rfl, Nat.le_refl _, Nat.le_refl _⟩
theorem tr_all {k w : Nat} : ∀ {l : List D}, (∀ x ∈ l, Tr k w x) → ∃ ps, pyAll l = some ps ∧ PyData.canLayAll0 ps = true ∧ PyData.showableAll ps = true ∧ PyData.intsShortAll 13 ps = true ∧ PyData.depthAll ps ≤ k ∧ PyData.weightAll ps ≤ l.length * (w + 1)
  | [], _ => ⟨[], by simp [pyAll], rfl, rfl, rfl, Nat.zero_le _, Nat.zero_le _⟩
  | x :: l, h => by
    obtain ⟨p, e, h1, h2, h3, h4, h5⟩ := h x List.mem_cons_self
    obtain ⟨ps, e', g1, g2, g3, g4, g5⟩ := tr_all (l := l) fun y hy => h y (List.mem_cons_of_mem _ hy)
    refine ⟨p :: ps, by simp only [pyAll, e, e'], ?_, ?_, ?_, ?_, ?_⟩
    · simp only [PyData.canLayAll0, h1, g1, Bool.and_self]
    · simp only [PyData.showableAll, h2, g2, Bool.and_self]
    · simp only [PyData.intsShortAll, h3, g3, Bool.and_self]
    · simp only [PyData.depthAll]; omega
    · simp only [PyData.weightAll, List.length_cons, Nat.add_mul]; omega
theorem Tr.tup {k w n : Nat} {l : List D} (hl : l.length ≤ n) (h : ∀ x ∈ l, Tr k w x) : Tr (k + 1) (n * (w + 1)) (.tup l) := by
  obtain ⟨ps, e, h1, h2, h3, h4, h5⟩ := tr_all h
  have := Nat.mul_le_mul_right (w + 1) hl
  refine ⟨.tuple ps, by simp [D.py, e], by simpa [PyData.canLay0] using h1, by simpa [PyData.showable] using h2, by simpa [PyData.intsShort] using h3, by simp only [PyData.depth]; omega, ?_⟩
  simp only [PyData.weight]; omega
theorem Tr.lst {k w n : Nat} {l : List D} (hl : l.length ≤ n) (h : ∀ x ∈ l, Tr k w x) : Tr (k + 1) (n * (w + 1)) (.lst l) := by
  obtain ⟨ps, e, h1, h2, h3, h4, h5⟩ := tr_all h
  have := Nat.mul_le_mul_right (w + 1) hl
  refine ⟨.list ps, by simp [D.py, e], by simpa [PyData.canLay0] using h1, by simpa [PyData.showable] using h2, by simpa [PyData.intsShort] using h3, by simp only [PyData.depth]; omega, ?_⟩
  simp only [PyData.weight]; omega
/-- a row's weight by its things' own -/
theorem tr_sum {k : Nat} {f : D → Nat} : ∀ {l : List D}, (∀ x ∈ l, Tr k (f x) x) → ∃ ps, pyAll l = some ps ∧ PyData.canLayAll0 ps = true ∧ PyData.showableAll ps = true ∧ PyData.intsShortAll 13 ps = true ∧ PyData.depthAll ps ≤ k ∧ PyData.weightAll ps ≤ (l.map f).sum + l.length
  | [], _ => ⟨[], by simp [pyAll], rfl, rfl, rfl, Nat.zero_le _, Nat.zero_le _⟩
  | x :: l, h => by
    obtain ⟨p, e, h1, h2, h3, h4, h5⟩ := h x List.mem_cons_self
    obtain ⟨ps, e', g1, g2, g3, g4, g5⟩ := tr_sum (l := l) fun y hy => h y (List.mem_cons_of_mem _ hy)
    refine ⟨p :: ps, by simp only [pyAll, e, e'], ?_, ?_, ?_, ?_, ?_⟩
    · simp only [PyData.canLayAll0, h1, g1, Bool.and_self]
    · simp only [PyData.showableAll, h2, g2, Bool.and_self]
    · simp only [PyData.intsShortAll, h3, g3, Bool.and_self]
    · simp only [PyData.depthAll]; omega
    · simp only [PyData.weightAll, List.length_cons, List.map_cons, List.sum_cons]; omega
theorem leaf_int {d : D} (h : leafD d = true) : ∃ i : Int, d = .int i ∧ 0 ≤ i ∧ i ≤ 99 := by
  unfold leafD among at h
  split at h
  · simp only [Bool.and_eq_true, decide_eq_true_eq] at h
    exact ⟨_, rfl, h⟩
  · cases h
theorem sum_mul {f : D → Nat} {c : Nat} : ∀ l : List D, (l.map fun x => c * f x).sum = c * (l.map f).sum
  | [] => rfl
  | x :: l => by simp only [List.map_cons, List.sum_cons, sum_mul l, Nat.mul_add]
theorem size_tr : ∀ (k : Nat) (d : D), 0 < sizeW k d → Tr k (52 * sizeW k d) d
  | 0, d, p => by simp [sizeW] at p
  | k + 1, d, p => by
    by_cases lf : leafD d = true
    · obtain ⟨i, rfl, h1, h2⟩ := leaf_int lf
      have e : sizeW (k + 1) (.int i) = 1 := by simp only [sizeW, lf, if_true]
      rw [e]
      exact (Tr.int (by omega)).le (by omega) (by omega)
    · cases d with
      | tup l =>
        obtain ⟨q1, q2, q3, q4⟩ := size_row p
        obtain ⟨ps, e, h1, h2, h3, h4, h5⟩ := tr_sum (f := fun x => 52 * sizeW k x) fun x hx => size_tr k x (q2 x hx)
        rw [sum_mul] at h5
        rw [q4]
        refine ⟨.tuple ps, by simp [D.py, e], by simpa [PyData.canLay0] using h1, by simpa [PyData.showable] using h2, by simpa [PyData.intsShort] using h3, by simp only [PyData.depth]; omega, ?_⟩
        simp only [PyData.weight]; omega
      | _ => simp [sizeW, lf] at p
theorem size_max : ∀ {k : Nat} {d : D}, sizeW k d ≤ 60
  | 0, d => by simp [sizeW]
  | k + 1, d => by
    by_cases p : 0 < sizeW (k + 1) d
    · by_cases lf : leafD d = true
      · have e : sizeW (k + 1) d = 1 := by simp only [sizeW, lf, if_true]
        omega
      · cases d with
        | tup l => obtain ⟨q1, q2, q3, q4⟩ := size_row p; omega
        | _ => simp [sizeW, lf] at p
    · omega
theorem worth_tr {d : D} (w : worthD d = true) : Tr 6 3120 d := by
  have p : 0 < sizeW 6 d := by simpa [worthD] using w
  have := size_max (k := 6) (d := d)
  exact (size_tr 6 d p).le (by omega) (by omega)
theorem small_tr {d : D} (w : smallD d = true) : Tr 6 260 d := by
  simp only [smallD, Bool.and_eq_true, decide_eq_true_eq] at w
  exact (size_tr 6 d (by omega)).le (by omega) (by omega)
theorem Row.ok.tr : ∀ {r : Row}, r.ok → Tr 8 60000 r.d
  | .fin l, w => (worth_tr w).le
  | .inf s a, i => by
    have i : IR s a := i
    refine (Tr.tup (k := 7) (w := 16000) (n := 3) (Nat.le_refl _) fun x hx => ?_).le
    simp only [List.mem_cons, List.not_mem_nil, or_false] at hx
    rcases hx with rfl | rfl | rfl
    · exact (Tr.str strOk_endless).le (by omega) (by decide)
    · exact (Tr.tup (n := 60) i.ls fun x hx => small_tr (i.ss x hx)).le
    · exact (Tr.tup (n := 60) (Nat.le_trans i.la (by omega)) fun x hx => small_tr (i.sa x hx)).le
/-- a twin is no heavier -/
theorem twin_tr : ∀ {k j w : Nat} {d : D}, Pl k d → Tr j w d → Tr j w (twinW k d)
  | k, j, w, .non, _, t => by rw [twin_non]; exact t
  | k, j, w, .str s, _, t => by rw [twin_str]; exact t
  | k, j, w, .lst s, _, t => by rw [twin_lst]; exact t
  | k, j, w, .int i, _, t => by
    rw [twin_int]
    split
    · exact Tr.bl.le (Nat.zero_le _) (Nat.zero_le _)
    · exact t
  | 0, _, _, .tup l, p, _ => p.elim
  | k + 1, j, w, .tup l, p, t => by
    have p : ∀ x ∈ l, Pl k x := p
    obtain ⟨q, e, h1, h2, h3, h4, h5⟩ := t
    obtain ⟨ps, a1, rfl⟩ := py_tup e
    simp only [PyData.canLay0, PyData.showable, PyData.intsShort, PyData.depth, PyData.weight] at h1 h2 h3 h4 h5
    have key : ∀ {l : List D} {ps : List PyData} {j w : Nat}, (∀ x ∈ l, Pl k x) → pyAll l = some ps → PyData.canLayAll0 ps = true → PyData.showableAll ps = true → PyData.intsShortAll 13 ps = true → PyData.depthAll ps ≤ j → PyData.weightAll ps ≤ w →
        ∃ qs, pyAll (l.map (twinW k)) = some qs ∧ PyData.canLayAll0 qs = true ∧ PyData.showableAll qs = true ∧ PyData.intsShortAll 13 qs = true ∧ PyData.depthAll qs ≤ j ∧ PyData.weightAll qs ≤ w := by
      intro l
      induction l with
      | nil =>
        intro ps j w _ e h1 h2 h3 h4 h5
        exact ⟨[], by simp [pyAll], rfl, rfl, rfl, Nat.zero_le _, Nat.zero_le _⟩
      | cons x l ih =>
        intro ps j w p e h1 h2 h3 h4 h5
        simp only [pyAll] at e
        cases ex : x.py with
        | none => simp [ex] at e
        | some y =>
          cases el : pyAll l with
          | none => simp [ex, el] at e
          | some ys =>
            simp [ex, el] at e
            subst e
            simp only [PyData.canLayAll0, PyData.showableAll, PyData.intsShortAll, PyData.depthAll, PyData.weightAll, Bool.and_eq_true] at h1 h2 h3 h4 h5
            obtain ⟨z, f, g1, g2, g3, g4, g5⟩ := twin_tr (j := j) (w := y.weight) (p x List.mem_cons_self) ⟨y, ex, h1.1, h2.1, h3.1, by omega, Nat.le_refl _⟩
            obtain ⟨zs, f', k1, k2, k3, k4, k5⟩ := ih (j := j) (w := PyData.weightAll ys) (fun x hx => p x (List.mem_cons_of_mem _ hx)) el h1.2 h2.2 h3.2 (by omega) (Nat.le_refl _)
            refine ⟨z :: zs, by simp only [List.map_cons, pyAll, f, f'], ?_, ?_, ?_, ?_, ?_⟩
            · simp only [PyData.canLayAll0, g1, k1, Bool.and_self]
            · simp only [PyData.showableAll, g2, k2, Bool.and_self]
            · simp only [PyData.intsShortAll, g3, k3, Bool.and_self]
            · simp only [PyData.depthAll]; omega
            · simp only [PyData.weightAll]; omega
    obtain ⟨qs, e2, g1, g2, g3, g4, g5⟩ := key (j := j - 1) p a1 h1 h2 h3 (by omega) h5
    rw [twin_tup]
    refine ⟨.tuple qs, by simp [D.py, e2], by simpa [PyData.canLay0] using g1, by simpa [PyData.showable] using g2, by simpa [PyData.intsShort] using g3, by simp only [PyData.depth]; omega, ?_⟩
    simp only [PyData.weight]; exact g5
  | 0, _, _, .bl _, p, _ => p.elim
  | k + 1, _, _, .bl _, p, _ => p.elim
  | 0, _, _, .arg _, p, _ => p.elim
  | k + 1, _, _, .arg _, p, _ => p.elim
  | 0, _, _, .ref _, p, _ => p.elim
  | k + 1, _, _, .ref _, p, _ => p.elim
  | 0, _, _, .sp _ _ _, p, _ => p.elim
  | k + 1, _, _, .sp _ _ _, p, _ => p.elim
theorem w_neSame {x y : D} {h : Hh} {Q : R → Hh → Prop} (e : x = y) (p : Pl 60 y) (k : Q (.dat (.bl false)) h) : evX X (ofR h (cmpF h .ne (.dat x) (.dat y)) fun b => R.dat (.bl b)) Q := by
  subst e
  refine w_neP p p ?_
  simpa using k
theorem w_eqSame {x y : D} {h : Hh} {Q : R → Hh → Prop} (e : x = y) (p : Pl 60 y) (k : Q (.dat (.bl true)) h) : evX X (ofR h (cmpF h .eq (.dat x) (.dat y)) fun b => R.dat (.bl b)) Q := by
  subst e
  refine w_eqP p p ?_
  simpa using k
theorem w_neSsame {x y : Str} {h : Hh} {Q : R → Hh → Prop} (e : x = y) (k : Q (.dat (.bl false)) h) : evX X (ofR h (cmpF h .ne (.dat (.str x)) (.dat (.str y))) fun b => R.dat (.bl b)) Q := by
  subst e
  refine w_neSt ?_
  simpa using k
end Mi
/-! Mi24: rows refused. -/
namespace Mi
open PySem PySem.Spec PyProof.Rows L2
variable {X : Exc → Hh → Prop}
local macro_rules | `(tactic| walk_at "run") => `(tactic| repeat (first
  | with_reducible refine w_notT ?_ | with_reducible refine w_notF ?_
  | with_reducible refine w_con ?_ | ((with_reducible refine' w_var ?e ?_); case e => rfl)
  | with_reducible refine w_bin ?_ | with_reducible refine w_fzD ?_ | with_reducible refine w_bind ?_ | with_reducible refine w_ok ?_
  | with_reducible refine w_addI ?_ | with_reducible refine w_subI ?_
  | with_reducible refine w_cons ?_ | with_reducible refine w_nil ?_ | with_reducible refine w_call ?_
  | with_reducible refine v_cons ?_ | ((with_reducible refine v_contN ?_); try simp only [setV, List.set_cons_succ, List.set_cons_zero]) | with_reducible refine v_contR ?_ | with_reducible refine v_asg ?_ | with_reducible refine v_ret ?_ | with_reducible refine v_retD ?_ | with_reducible refine v_endR ?_
  | with_reducible refine v_nil ?_ | with_reducible refine v_ifs ?_ | with_reducible refine w_brt ?_ | with_reducible refine w_brf ?_
  | with_reducible refine w_and ?_ | with_reducible refine w_or ?_ | with_reducible refine w_not ?_ | with_reducible refine w_notR ?_ | with_reducible refine w_ite ?_
  | with_reducible refine w_cmp ?_ | with_reducible refine w_chain ?_ | with_reducible refine w_ltI ?_ | with_reducible refine w_leI ?_ | with_reducible refine w_gtI ?_ | with_reducible refine w_geI ?_ | with_reducible refine w_eqI ?_
  | with_reducible refine w_isi ?_ | with_reducible refine w_blt ?_ | with_reducible refine w_ix ?_ | with_reducible refine w_dget ?_
  | ((with_reducible refine' w_modI ?e ?_); case e => (first | decide | omega))
  | ((with_reducible refine' w_fdivI ?e ?_); case e => (first | decide | omega))
  | ((with_reducible refine' w_mulI ?e ?_); case e => (first | exact near_r (by decide) | exact near_l (by decide) | exact near_ro (by omega) (by omega) | exact near_lo (by omega) (by omega)))
  | ((with_reducible refine' w_powI ?e ?_); case e => decide)
  | with_reducible refine w_neg ?_ | with_reducible refine w_negI ?_
  | with_reducible refine w_tup ?_ | with_reducible refine w_lst ?_ | ((with_reducible refine' w_lenR ?e ?_); case e => (first | decide | (simp only [List.length_cons, List.length_nil, Nat.zero_add, Nat.reduceAdd]; decide)))
  | with_reducible refine w_fzN ?_ | ((with_reducible refine' w_glo ?e ?_); case e => (first | assumption | rfl))
  | with_reducible refine w_sl ?_ | with_reducible refine w_ono ?_ | with_reducible refine w_opart ?_ | with_reducible refine w_intR ?_ | with_reducible refine w_strR ?_ | with_reducible refine w_tupR ?_ | with_reducible refine w_newR ?_ | ((with_reducible refine' w_optR ?e ?_); case e => rfl)
  | with_reducible refine w_mth ?_ | with_reducible refine w_comp ?_ | with_reducible refine w_seq ?_ | with_reducible refine w_rng1 ?_ | with_reducible refine w_rng2 ?_ | with_reducible refine w_rng3 ?_ | with_reducible refine w_enum ?_ | ((with_reducible refine' w_rng1R ?e ?_); case e => exact rng_ok1 (by omega) (by omega)) | ((with_reducible refine' w_rngR ?e ?_); case e => exact rng_ok2 (by omega) (by omega) (by omega) (by omega)) | ((with_reducible refine' w_rngD ?e ?_); case e => exact rng_ok2 (by omega) (by omega) (by omega) (by omega))
  | with_reducible refine w_promo ?_ | with_reducible refine w_proN ?_ | with_reducible refine w_proD ?_ | with_reducible refine w_dct ?_ | ((with_reducible refine' w_dctR ?e ?_); case e => decide)
  | with_reducible refine v_own ?_ | with_reducible refine v_any ?_ | with_reducible refine v_anyN ?_ | with_reducible refine v_anyD ?_ | with_reducible refine w_blt1 ?_ | with_reducible refine v_asgs ?_ | with_reducible refine v_setL ?_ | with_reducible refine v_setD ?_ | with_reducible refine v_setOwn ?_ | ((with_reducible refine' v_ownR ?e ?_); case e => rfl)
  | ((with_reducible refine' v_app ?e ?_); case e => rfl) | ((with_reducible refine' v_ext ?e ?_); case e => rfl) | with_reducible refine v_expr ?_ | with_reducible refine v_for ?_ | with_reducible refine v_whl ?_
  | ((with_reducible refine' v_retV ?e ?_); case e => rfl) | with_reducible refine v_retn ?_ | with_reducible refine v_pass ?_ | with_reducible refine v_brk ?_ | with_reducible refine v_cnt ?_ | ((with_reducible refine' v_frz ?e ?_); case e => rfl)
  | with_reducible refine v_contB ?_ | with_reducible refine v_contC ?_ | with_reducible refine v_retN ?_ | with_reducible refine v_endN ?_ | with_reducible refine w_compG ?_
  | ((with_reducible refine' w_varO ?e ?_); case e => rfl)
  | ((with_reducible refine' w_dgetK ?e ?q ?_); (case e => first | assumption | rfl); (case q => rfl); (try dsimp only))
  | with_reducible refine w_lenT ?_ | with_reducible refine w_lenLs ?_ | with_reducible refine w_slT ?_ | with_reducible refine w_slL ?_ | with_reducible refine w_tupN ?_ | with_reducible refine w_seqT ?_ | with_reducible refine w_seqL ?_ | with_reducible refine w_seqN ?_ | with_reducible refine w_intB ?_ | with_reducible refine w_intI ?_ | with_reducible refine w_neI ?_
  | with_reducible refine w_isi_int_non ?_ | with_reducible refine w_isi_int_bl ?_ | with_reducible refine w_isi_int_int ?_ | with_reducible refine w_isi_int_str ?_ | with_reducible refine w_isi_int_tup ?_ | with_reducible refine w_isi_int_lst ?_ | with_reducible refine w_isi_bool_non ?_ | with_reducible refine w_isi_bool_bl ?_ | with_reducible refine w_isi_bool_int ?_ | with_reducible refine w_isi_bool_str ?_ | with_reducible refine w_isi_bool_tup ?_ | with_reducible refine w_isi_bool_lst ?_ | with_reducible refine w_isi_str_non ?_ | with_reducible refine w_isi_str_bl ?_ | with_reducible refine w_isi_str_int ?_ | with_reducible refine w_isi_str_str ?_ | with_reducible refine w_isi_str_tup ?_ | with_reducible refine w_isi_str_lst ?_ | with_reducible refine w_isi_tuple_non ?_ | with_reducible refine w_isi_tuple_bl ?_ | with_reducible refine w_isi_tuple_int ?_ | with_reducible refine w_isi_tuple_str ?_ | with_reducible refine w_isi_tuple_tup ?_ | with_reducible refine w_isi_tuple_lst ?_ | with_reducible refine w_isi_list_non ?_ | with_reducible refine w_isi_list_bl ?_ | with_reducible refine w_isi_list_int ?_ | with_reducible refine w_isi_list_str ?_ | with_reducible refine w_isi_list_tup ?_ | with_reducible refine w_isi_list_lst ?_
  | with_reducible refine w_lrng1 ?_ | with_reducible refine w_lrng2 ?_ | ((with_reducible refine' w_lrngR ?e ?_); case e => (refine ⟨?_, ?_, ?_, ?_, ?_⟩ <;> omega)) | with_reducible refine w_lrngR2 ?_ | with_reducible refine w_max2 ?_ | with_reducible refine w_min2 ?_ | with_reducible refine w_zip ?_ | with_reducible refine w_zipT ?_ | with_reducible refine w_zipL ?_ | with_reducible refine w_zipLN ?_
  | with_reducible refine w_fnv ?_ | with_reducible refine w_isx ?_ | with_reducible refine w_attr ?_ | ((with_reducible refine' w_attrR ?e ?_); case e => rfl) | ((with_reducible refine' w_callv ?e ?_); case e => rfl) | with_reducible refine w_told ?_ | with_reducible refine v_raise ?_
  | ((with_reducible refine' w_ixT ?e ?_); case e => rfl)
  | ((with_reducible refine' w_brd ?e ?_); case e => omega)
  | ((with_reducible refine' w_brn ?e ?_); case e => omega)
  | ((with_reducible refine' w_brnd ?e ?_); case e => omega)
  | ((with_reducible refine' w_brnn ?e ?_); case e => omega)
  | ((with_reducible refine' w_brp ?e ?_); case e => assumption)
  | ((with_reducible refine' w_brq ?e ?_); case e => assumption)))
local macro_rules | `(tactic| walk_at "one") => `(tactic| (first
  | with_reducible refine w_notT ?_ | with_reducible refine w_notF ?_
  | with_reducible refine w_con ?_ | ((with_reducible refine' w_var ?e ?_); case e => rfl)
  | with_reducible refine w_bin ?_ | with_reducible refine w_fzD ?_ | with_reducible refine w_bind ?_ | with_reducible refine w_ok ?_
  | with_reducible refine w_addI ?_ | with_reducible refine w_subI ?_
  | with_reducible refine w_cons ?_ | with_reducible refine w_nil ?_ | with_reducible refine w_call ?_
  | with_reducible refine v_cons ?_ | ((with_reducible refine v_contN ?_); try simp only [setV, List.set_cons_succ, List.set_cons_zero]) | with_reducible refine v_contR ?_ | with_reducible refine v_asg ?_ | with_reducible refine v_ret ?_ | with_reducible refine v_retD ?_ | with_reducible refine v_endR ?_
  | with_reducible refine v_nil ?_ | with_reducible refine v_ifs ?_ | with_reducible refine w_brt ?_ | with_reducible refine w_brf ?_
  | with_reducible refine w_and ?_ | with_reducible refine w_or ?_ | with_reducible refine w_not ?_ | with_reducible refine w_notR ?_ | with_reducible refine w_ite ?_
  | with_reducible refine w_cmp ?_ | with_reducible refine w_chain ?_ | with_reducible refine w_ltI ?_ | with_reducible refine w_leI ?_ | with_reducible refine w_gtI ?_ | with_reducible refine w_geI ?_ | with_reducible refine w_eqI ?_
  | with_reducible refine w_isi ?_ | with_reducible refine w_blt ?_ | with_reducible refine w_ix ?_ | with_reducible refine w_dget ?_
  | ((with_reducible refine' w_modI ?e ?_); case e => (first | decide | omega))
  | ((with_reducible refine' w_fdivI ?e ?_); case e => (first | decide | omega))
  | ((with_reducible refine' w_mulI ?e ?_); case e => (first | exact near_r (by decide) | exact near_l (by decide) | exact near_ro (by omega) (by omega) | exact near_lo (by omega) (by omega)))
  | ((with_reducible refine' w_powI ?e ?_); case e => decide)
  | with_reducible refine w_neg ?_ | with_reducible refine w_negI ?_
  | with_reducible refine w_tup ?_ | with_reducible refine w_lst ?_ | ((with_reducible refine' w_lenR ?e ?_); case e => (first | decide | (simp only [List.length_cons, List.length_nil, Nat.zero_add, Nat.reduceAdd]; decide)))
  | with_reducible refine w_fzN ?_ | ((with_reducible refine' w_glo ?e ?_); case e => (first | assumption | rfl))
  | with_reducible refine w_sl ?_ | with_reducible refine w_ono ?_ | with_reducible refine w_opart ?_ | with_reducible refine w_intR ?_ | with_reducible refine w_strR ?_ | with_reducible refine w_tupR ?_ | with_reducible refine w_newR ?_ | ((with_reducible refine' w_optR ?e ?_); case e => rfl)
  | with_reducible refine w_mth ?_ | with_reducible refine w_comp ?_ | with_reducible refine w_seq ?_ | with_reducible refine w_rng1 ?_ | with_reducible refine w_rng2 ?_ | with_reducible refine w_rng3 ?_ | with_reducible refine w_enum ?_ | ((with_reducible refine' w_rng1R ?e ?_); case e => exact rng_ok1 (by omega) (by omega)) | ((with_reducible refine' w_rngR ?e ?_); case e => exact rng_ok2 (by omega) (by omega) (by omega) (by omega)) | ((with_reducible refine' w_rngD ?e ?_); case e => exact rng_ok2 (by omega) (by omega) (by omega) (by omega))
  | with_reducible refine w_promo ?_ | with_reducible refine w_proN ?_ | with_reducible refine w_proD ?_ | with_reducible refine w_dct ?_ | ((with_reducible refine' w_dctR ?e ?_); case e => decide)
  | with_reducible refine v_own ?_ | with_reducible refine v_any ?_ | with_reducible refine v_anyN ?_ | with_reducible refine v_anyD ?_ | with_reducible refine w_blt1 ?_ | with_reducible refine v_asgs ?_ | with_reducible refine v_setL ?_ | with_reducible refine v_setD ?_ | with_reducible refine v_setOwn ?_ | ((with_reducible refine' v_ownR ?e ?_); case e => rfl)
  | ((with_reducible refine' v_app ?e ?_); case e => rfl) | ((with_reducible refine' v_ext ?e ?_); case e => rfl) | with_reducible refine v_expr ?_ | with_reducible refine v_for ?_ | with_reducible refine v_whl ?_
  | ((with_reducible refine' v_retV ?e ?_); case e => rfl) | with_reducible refine v_retn ?_ | with_reducible refine v_pass ?_ | with_reducible refine v_brk ?_ | with_reducible refine v_cnt ?_ | ((with_reducible refine' v_frz ?e ?_); case e => rfl)
  | with_reducible refine v_contB ?_ | with_reducible refine v_contC ?_ | with_reducible refine v_retN ?_ | with_reducible refine v_endN ?_ | with_reducible refine w_compG ?_
  | ((with_reducible refine' w_varO ?e ?_); case e => rfl)
  | ((with_reducible refine' w_dgetK ?e ?q ?_); (case e => first | assumption | rfl); (case q => rfl); (try dsimp only))
  | with_reducible refine w_lenT ?_ | with_reducible refine w_lenLs ?_ | with_reducible refine w_slT ?_ | with_reducible refine w_slL ?_ | with_reducible refine w_tupN ?_ | with_reducible refine w_seqT ?_ | with_reducible refine w_seqL ?_ | with_reducible refine w_seqN ?_ | with_reducible refine w_intB ?_ | with_reducible refine w_intI ?_ | with_reducible refine w_neI ?_
  | with_reducible refine w_isi_int_non ?_ | with_reducible refine w_isi_int_bl ?_ | with_reducible refine w_isi_int_int ?_ | with_reducible refine w_isi_int_str ?_ | with_reducible refine w_isi_int_tup ?_ | with_reducible refine w_isi_int_lst ?_ | with_reducible refine w_isi_bool_non ?_ | with_reducible refine w_isi_bool_bl ?_ | with_reducible refine w_isi_bool_int ?_ | with_reducible refine w_isi_bool_str ?_ | with_reducible refine w_isi_bool_tup ?_ | with_reducible refine w_isi_bool_lst ?_ | with_reducible refine w_isi_str_non ?_ | with_reducible refine w_isi_str_bl ?_ | with_reducible refine w_isi_str_int ?_ | with_reducible refine w_isi_str_str ?_ | with_reducible refine w_isi_str_tup ?_ | with_reducible refine w_isi_str_lst ?_ | with_reducible refine w_isi_tuple_non ?_ | with_reducible refine w_isi_tuple_bl ?_ | with_reducible refine w_isi_tuple_int ?_ | with_reducible refine w_isi_tuple_str ?_ | with_reducible refine w_isi_tuple_tup ?_ | with_reducible refine w_isi_tuple_lst ?_ | with_reducible refine w_isi_list_non ?_ | with_reducible refine w_isi_list_bl ?_ | with_reducible refine w_isi_list_int ?_ | with_reducible refine w_isi_list_str ?_ | with_reducible refine w_isi_list_tup ?_ | with_reducible refine w_isi_list_lst ?_
  | with_reducible refine w_lrng1 ?_ | with_reducible refine w_lrng2 ?_ | ((with_reducible refine' w_lrngR ?e ?_); case e => (refine ⟨?_, ?_, ?_, ?_, ?_⟩ <;> omega)) | with_reducible refine w_lrngR2 ?_ | with_reducible refine w_max2 ?_ | with_reducible refine w_min2 ?_ | with_reducible refine w_zip ?_ | with_reducible refine w_zipT ?_ | with_reducible refine w_zipL ?_ | with_reducible refine w_zipLN ?_
  | with_reducible refine w_fnv ?_ | with_reducible refine w_isx ?_ | with_reducible refine w_attr ?_ | ((with_reducible refine' w_attrR ?e ?_); case e => rfl) | ((with_reducible refine' w_callv ?e ?_); case e => rfl) | with_reducible refine w_told ?_ | with_reducible refine v_raise ?_
  | ((with_reducible refine' w_ixT ?e ?_); case e => rfl)
  | ((with_reducible refine' w_brd ?e ?_); case e => omega)
  | ((with_reducible refine' w_brn ?e ?_); case e => omega)
  | ((with_reducible refine' w_brnd ?e ?_); case e => omega)
  | ((with_reducible refine' w_brnn ?e ?_); case e => omega)
  | ((with_reducible refine' w_brp ?e ?_); case e => assumption)
  | ((with_reducible refine' w_brq ?e ?_); case e => assumption)))

def Row.lim0 : Row → Int
  | .fin l => (l.length : Nat)
  | .inf _ _ => 40
def Row.lim1 : Row → Int
  | .fin l => (l.length : Nat) - 1
  | .inf _ _ => 40
abbrev rT : S := .raise "BadThing" .nil
abbrev rP : S := .raise "BadPlace" .nil
section
variable {T : Tab} {G : Str → Option D} {n : Nat} {h : Hh} {d x : D} {r : Row}
theorem nrow_ex (W : WT5 T G rT rP rP) (s : Sn h 8 d) (t : (thingD d && isTup d) = false) : run T G (n + 14) "need_row" [d] h = .ex ⟨"BadThing", []⟩ h := by
  refine ev_exq (v_run W.nrow rfl ?_)
  unfold fn_need_row
  simp only [Fn.env, List.map_cons, List.map_nil, Nat.reduceSub, List.replicate_succ, List.replicate_zero, List.cons_append, List.nil_append]
  walk_at "run"
  refine ev_of (thing_ok W.toWT2 s) ?_
  cases e : thingD d with
  | false =>
    walk_at "run"
    exact ⟨rfl, rfl⟩
  | true =>
    rw [e, Bool.true_and] at t
    walk_at "run"
    refine w_isiC (isi_tup s.seen) ?_
    rw [t]
    walk_at "run"
    exact ⟨rfl, rfl⟩
theorem nnum_ex (W : WT5 T G rT rP rP) (o : r.ok) {m : Int} (sx : seen h x = true) (f : Mi.among 0 (match r with | .fin _ => m | .inf _ _ => 40) x = false) : run T G (n + 3) "need_number" [r.d, x, .int m] h = .ex ⟨"BadPlace", []⟩ h := by
  have g1 := W.gNum
  refine ev_exq (v_run W.nnum rfl ?_)
  unfold fn_need_number
  simp only [Fn.env, List.map_cons, List.map_nil, Nat.reduceSub, List.replicate_succ, List.replicate_zero, List.cons_append, List.nil_append]
  walk_at "run"
  refine ev_of (goes_ok W.toWT3 (o.pl.le (by omega))) ?_
  rw [o.goes]
  cases r with
  | fin l =>
    walk_at "run"
    refine ev_of (among_ok W.whole W.among sx) ?_
    rw [f]
    walk_at "run"
    exact ⟨rfl, rfl⟩
  | inf s a =>
    walk_at "run"
    refine ev_of (among_ok W.whole W.among sx) ?_
    rw [f]
    walk_at "run"
    exact ⟨rfl, rfl⟩
/-- the four that ask for a row first -/
def asks : List Str := ["thing_at", "things_ahead", "things_behind", "without"]
theorem asks_all {P : Str → Prop} (h1 : P "thing_at") (h2 : P "things_ahead") (h3 : P "things_behind") (h4 : P "without") : ∀ f ∈ asks, P f := by
  intro f hf
  simp only [asks, List.mem_cons, List.not_mem_nil, or_false] at hf
  rcases hf with rfl | rfl | rfl | rfl <;> assumption
theorem ask_thing (W : WT5 T G rT rP rP) (s : Sn h 8 d) (t : (thingD d && isTup d) = false) : ∀ f ∈ asks, run T G (n + 15) f [d, x] h = .ex ⟨"BadThing", []⟩ h := by
  refine asks_all ?_ ?_ ?_ ?_
  · refine ev_exq (v_run W.at_ rfl ?_)
    unfold fn_thing_at
    simp only [Fn.env, List.map_cons, List.map_nil, Nat.reduceSub, List.replicate_succ, List.replicate_zero, List.cons_append, List.nil_append]
    walk_at "run"
    exact ev_ofX (nrow_ex W s t) ⟨rfl, rfl⟩
  · refine ev_exq (v_run W.things rfl ?_)
    unfold fn_things_ahead
    simp only [Fn.env, List.map_cons, List.map_nil, Nat.reduceSub, List.replicate_succ, List.replicate_zero, List.cons_append, List.nil_append]
    walk_at "run"
    exact ev_ofX (nrow_ex W s t) ⟨rfl, rfl⟩
  · refine ev_exq (v_run W.back rfl ?_)
    unfold fn_things_behind
    simp only [Fn.env, List.map_cons, List.map_nil, Nat.reduceSub, List.replicate_succ, List.replicate_zero, List.cons_append, List.nil_append]
    walk_at "run"
    exact ev_ofX (nrow_ex W s t) ⟨rfl, rfl⟩
  · refine ev_exq (v_run W.wout rfl ?_)
    unfold fn_without
    simp only [Fn.env, List.map_cons, List.map_nil, Nat.reduceSub, List.replicate_succ, List.replicate_zero, List.cons_append, List.nil_append]
    walk_at "run"
    exact ev_ofX (nrow_ex W s t) ⟨rfl, rfl⟩
theorem at_place_ex (W : WT5 T G rT rP rP) (o : r.ok) (sx : seen h x = true) (f : Mi.among 0 r.lim1 x = false) : run T G (n + 15) "thing_at" [r.d, x] h = .ex ⟨"BadPlace", []⟩ h := by
  refine ev_exq (v_run W.at_ rfl ?_)
  unfold fn_thing_at
  simp only [Fn.env, List.map_cons, List.map_nil, Nat.reduceSub, List.replicate_succ, List.replicate_zero, List.cons_append, List.nil_append]
  walk_at "run"
  refine ev_of (nrow_ok W o) ?_
  obtain ⟨l, e, hl⟩ := r.d_tup
  walk_at "run"
  rw [e]
  walk_at "run"
  rw [← e]
  refine ev_ofX (nnum_ex W o sx ?_) ⟨rfl, rfl⟩
  cases r with
  | fin l' => simp only at hl ⊢; rw [hl]; exact f
  | inf s a => exact f
theorem without_ex (W : WT5 T G rT rP rP) (o : r.ok) (sx : seen h x = true) (f : Mi.among 0 r.lim1 x = false) : run T G (n + 15) "without" [r.d, x] h = .ex ⟨"BadPlace", []⟩ h := by
  refine ev_exq (v_run W.wout rfl ?_)
  unfold fn_without
  simp only [Fn.env, List.map_cons, List.map_nil, Nat.reduceSub, List.replicate_succ, List.replicate_zero, List.cons_append, List.nil_append]
  walk_at "run"
  refine ev_of (nrow_ok W o) ?_
  obtain ⟨l, e, hl⟩ := r.d_tup
  walk_at "run"
  rw [e]
  walk_at "run"
  rw [← e]
  refine ev_ofX (nnum_ex W o sx ?_) ⟨rfl, rfl⟩
  cases r with
  | fin l' => simp only at hl ⊢; rw [hl]; exact f
  | inf s a => exact f
theorem ahead_ex (W : WT5 T G rT rP rP) (o : r.ok) (sx : seen h x = true) (f : Mi.among 0 r.lim0 x = false) : run T G (n + 15) "things_ahead" [r.d, x] h = .ex ⟨"BadPlace", []⟩ h := by
  refine ev_exq (v_run W.things rfl ?_)
  unfold fn_things_ahead
  simp only [Fn.env, List.map_cons, List.map_nil, Nat.reduceSub, List.replicate_succ, List.replicate_zero, List.cons_append, List.nil_append]
  walk_at "run"
  refine ev_of (nrow_ok W o) ?_
  obtain ⟨l, e, hl⟩ := r.d_tup
  walk_at "run"
  rw [e]
  walk_at "run"
  rw [← e]
  refine ev_ofX (nnum_ex W o sx ?_) ⟨rfl, rfl⟩
  cases r with
  | fin l' => simp only at hl ⊢; rw [hl]; exact f
  | inf s a => exact f
theorem ahead_ex2 (W : WT5 T G rT rP rP) (o : r.ok) {k : Nat} (hk : k ≤ r.len) (h10 : 10 < k) : run T G (n + 15) "things_ahead" [r.d, .int (k : Nat)] h = .ex ⟨"BadPlace", []⟩ h := by
  have g1 := W.gThings
  refine ev_exq (v_run W.things rfl ?_)
  unfold fn_things_ahead
  simp only [Fn.env, List.map_cons, List.map_nil, Nat.reduceSub, List.replicate_succ, List.replicate_zero, List.cons_append, List.nil_append]
  walk_at "run"
  refine ev_of (nrow_ok W o) ?_
  obtain ⟨l, e, hl⟩ := r.d_tup
  walk_at "run"
  rw [e]
  walk_at "run"
  rw [← e]
  refine ev_of (nnum_ok W o ?_) ?_
  · cases r with
    | fin l' => have hk : k ≤ l'.length := hk; show (k : Int) ≤ (l.length : Nat); simp only at hl; omega
    | inf s a => have hk : k ≤ 40 := hk; show (k : Int) ≤ 40; omega
  walk_at "run"
  exact ⟨rfl, rfl⟩
theorem behind_ex (W : WT5 T G rT rP rP) (o : r.ok) (sx : seen h x = true) (f : Mi.among 0 r.lim0 x = false) : run T G (n + 15) "things_behind" [r.d, x] h = .ex ⟨"BadPlace", []⟩ h := by
  refine ev_exq (v_run W.back rfl ?_)
  unfold fn_things_behind
  simp only [Fn.env, List.map_cons, List.map_nil, Nat.reduceSub, List.replicate_succ, List.replicate_zero, List.cons_append, List.nil_append]
  walk_at "run"
  refine ev_of (nrow_ok W o) ?_
  obtain ⟨l, e, hl⟩ := r.d_tup
  walk_at "run"
  rw [e]
  walk_at "run"
  rw [← e]
  refine ev_ofX (nnum_ex W o sx ?_) ⟨rfl, rfl⟩
  cases r with
  | fin l' => simp only at hl ⊢; rw [hl]; exact f
  | inf s a => exact f
end
end Mi
/-! Mi25: windows on endless rows; lists put together. -/
namespace Mi
open PySem PySem.Spec PyProof.Rows L2
variable {X : Exc → Hh → Prop}
theorem head_fin {l : List D} (w : worthD (.tup l) = true) : D.tup (cutD l none (some 1)) ≠ .tup [.str "endless"] := fun e => by
  rw [cut_to (by omega)] at e
  cases l with
  | nil => simp at e
  | cons x l =>
    simp at e
    subst e
    have := (size_row (k := 5) (by simpa [worthD] using w)).2.1 (.str "endless") (by simp)
    rw [worth_str] at this
    omega
theorem pl_e : Pl 60 (.tup [.str "endless"]) := Pl.le (Pl.tup (k := 1) (by simp; exact .str strOk_endless)) (by omega)
theorem pl_cut {l : List D} {lo hi : Option Int} (p : Pl 8 (.tup l)) : Pl 60 (.tup (cutD l lo hi)) := Pl.le (Pl.tup (k := 7) fun x hx => (show ∀ x ∈ l, Pl 7 x from p) x ((List.drop_sublist _ _).subset ((List.take_sublist _ _).subset hx))) (by omega)
/-- the first things of an endless row, far enough -/
def th (s a : List D) (N : Nat) : List D := s ++ (List.replicate (1 + N / a.length) a).flatten
theorem th_len {s a : List D} {N : Nat} (h : a ≠ []) : N + 1 + s.length ≤ (th s a N).length := by
  have hp : 0 < a.length := List.length_pos_iff.mpr h
  unfold th
  rw [List.length_append, rep_len, Nat.add_mul, Nat.one_mul]
  have := Nat.lt_mul_div_succ N hp
  have e : a.length * (N / a.length + 1) = a.length + N / a.length * a.length := by rw [Nat.mul_add, Nat.mul_one, Nat.mul_comm]; omega
  omega
theorem th_len_le {s a : List D} {N : Nat} : (th s a N).length ≤ s.length + a.length * (1 + N) := by
  unfold th
  rw [List.length_append, rep_len, Nat.mul_comm]
  have := Nat.mul_le_mul_left a.length (Nat.add_le_add_left (Nat.div_le_self N a.length) 1)
  omega
theorem th_get {s a : List D} {N i : Nat} (h : a ≠ []) (hi : i < (th s a N).length) : (th s a N)[i]? = strm s a i := by
  have hp : 0 < a.length := List.length_pos_iff.mpr h
  by_cases q : i < s.length
  · rw [strm_lt q]; unfold th; rw [List.getElem?_append_left q]
  · rw [strm_ge (by omega)]
    unfold th at hi ⊢
    rw [List.length_append, rep_len] at hi
    rw [List.getElem?_append_right (by omega), get_rep hp _ _ (by omega)]
    rfl
theorem th_mem {s a : List D} {N : Nat} {x : D} (hx : x ∈ th s a N) : x ∈ s ∨ x ∈ a := by
  unfold th at hx
  rcases List.mem_append.mp hx with q | q
  · exact .inl q
  · exact .inr (mem_rep q)
theorem win_get {t : List D} {i j k : Nat} (h : k < j - i) (hj : j ≤ t.length) : ((t.drop i).take (j - i))[k]? = t[i + k]? := by
  rw [List.getElem?_take_of_lt h, List.getElem?_drop]
theorem win_len {t : List D} {i j : Nat} (hj : j ≤ t.length) : ((t.drop i).take (j - i)).length = j - i := by
  rw [List.length_take, List.length_drop]; omega
/-- a window up to the round, and a round, are the same row from there on -/
theorem win_strm {s a t : List D} {k far : Nat} (h : a ≠ []) (ht : ∀ i, i < t.length → t[i]? = strm s a i) (h1 : s.length ≤ far) (h2 : k ≤ far) (h3 : far + a.length ≤ t.length) (i : Nat) :
    strm ((t.drop k).take (far - k)) ((t.drop far).take a.length) i = strm s a (k + i) := by
  have hp : 0 < a.length := List.length_pos_iff.mpr h
  have l1 : ((t.drop k).take (far - k)).length = far - k := win_len (by omega)
  have l2 : ((t.drop far).take a.length).length = a.length := by rw [List.length_take, List.length_drop]; omega
  by_cases q : i < far - k
  · rw [strm_lt (by omega), win_get q (by omega), ht _ (by omega)]
  · rw [strm_ge (by omega), l1]
    unfold cyc
    rw [l2]
    have hm := Nat.mod_lt (i - (far - k)) hp
    rw [List.getElem?_take_of_lt hm, List.getElem?_drop, ht _ (by omega), strm_ge (by omega), strm_ge (by omega)]
    unfold cyc
    congr 1
    rw [show k + i - s.length = (far - s.length) + (i - (far - k)) by omega, show far + (i - (far - k)) % a.length - s.length = (far - s.length) + (i - (far - k)) % a.length by omega, Nat.add_mod, Nat.mod_mod, ← Nat.add_mod]
/-- the lean row behind, by a window -/
theorem win_behind {s a t : List D} {k far : Nat} (h : a ≠ []) (ht : ∀ i, i < t.length → t[i]? = strm s a i) (h1 : s.length ≤ far) (h2 : k ≤ far) (h3 : far + a.length ≤ t.length) :
    lnOf ((t.drop k).take (far - k)) ((t.drop far).take a.length) = ((Row.inf s a).behind k).d := by
  have hp : 0 < a.length := List.length_pos_iff.mpr h
  have n0 : (t.drop far).take a.length ≠ [] := fun z => by
    have := congrArg List.length z
    rw [List.length_take, List.length_drop] at this
    simp only [List.length_nil] at this
    omega
  show lnOf _ _ = endl (bL s a k).1 (bL s a k).2
  unfold lnOf
  rw [leaned_eq n0 (bhA_ne h k) (funext fun i => by rw [win_strm h ht h1 h2 h3, bh_strm h])]
theorem win_without {s a t : List D} {k far : Nat} (h : a ≠ []) (ht : ∀ i, i < t.length → t[i]? = strm s a i) (h1 : s.length ≤ far) (h2 : k + 1 ≤ far) (h3 : far + a.length ≤ t.length) :
    lnOf (t.take k ++ (t.drop (k + 1)).take (far - (k + 1))) ((t.drop far).take a.length) = ((Row.inf s a).without k).d := by
  have hp : 0 < a.length := List.length_pos_iff.mpr h
  have n0 : (t.drop far).take a.length ≠ [] := fun z => by
    have := congrArg List.length z
    rw [List.length_take, List.length_drop] at this
    simp only [List.length_nil] at this
    omega
  rw [row_without]
  show lnOf _ _ = endl (wL s a k).1 (wL s a k).2
  unfold lnOf
  have e : leaned (t.take k ++ (t.drop (k + 1)).take (far - (k + 1))) ((t.drop far).take a.length) = wL s a k := by
    refine leaned_eq n0 (bL_ne h (k + 1)) (funext fun i => ?_)
    have lk : (t.take k).length = k := by rw [List.length_take]; omega
    rw [strm_app, strm_app, lk, ahead_len]
    by_cases q : i < k
    · rw [if_pos q, if_pos q, List.getElem?_take_of_lt q, ht _ (by omega), ahead_get h q]
    · rw [if_neg q, if_neg q, win_strm h ht h1 h2 h3, bL_strm h]
  rw [e]
section
variable {h : Hh} {Q : R → Hh → Prop}
theorem w_addBN {a b : List D} (z : a.length + b.length ≤ big) (p : Q (.new (a ++ b)) h) : evX X (Res.of h (binF h .add (.bor a) (.new b))) Q := by
  refine w_of (a := .new (a ++ b)) ?_ p
  show (if a.length + b.length ≤ sizeLine then _ else _) = _
  rw [if_pos (by rw [sizeLine_eq]; rw [big_eq] at z; omega)]
theorem w_mulLN {a : List D} {k : Nat} (h1 : k ≤ big) (z : a.length * k ≤ big) (p : Q (.new (List.replicate k a).flatten) h) : evX X (Res.of h (binF h .mul (.new a) (.dat (.int ((k : Nat) : Int))))) Q := by
  have e : binF h .mul (.new a) (.dat (.int ((k : Nat) : Int))) = (if -(2 ^ 63) ≤ ((k : Nat) : Int) ∧ ((k : Nat) : Int) < 2 ^ 63 ∧ a.length * ((k : Nat) : Int).toNat ≤ sizeLine then some (.new (List.replicate ((k : Nat) : Int).toNat a).flatten) else none) := rfl
  rw [e]
  rw [big_eq] at h1 z
  have e1 : ((k : Nat) : Int) < 2 ^ 63 := Int.lt_of_lt_of_le (Int.ofNat_lt.mpr (Nat.lt_succ_of_le h1)) (by decide)
  rw [Int.toNat_natCast, if_pos ⟨negN, e1, by rw [sizeLine_eq]; omega⟩]
  exact p
theorem w_neNew {x y : List D} (e : x = y) (p : Pl 60 (.lst y)) (k : Q (.dat (.bl false)) h) : evX X (ofR h (cmpF h .ne (.new x) (.new y)) fun b => R.dat (.bl b)) Q := by
  subst e
  refine w_neP (x := .new x) (y := .new x) p p ?_
  simpa using k
theorem w_fz {α : Type} {x : R} {a : D} {k : D → Res α} {QA : α → Hh → Prop} (e : x.fz = some a) (p : evX X (k a) QA) : evX X (fzR x k) QA := by
  unfold fzR
  rw [e]; exact p
end
theorem cut_midN {l : List D} {i j : Nat} (hj : i ≤ j) : cutD l (some ((i : Nat) : Int)) (some ((j : Nat) : Int)) = (l.drop i).take (j - i) := by
  rw [cut_mid (by omega) (by omega), Int.toNat_natCast, Int.toNat_natCast]
end Mi
namespace Mi.K04
open PySem PySem.Spec PyProof.Rows L2
abbrev prog : Program := PySem.Challenge.pw_waysfold_k04_lean_rows
def topS (i : Nat) : Stmt := prog.main.body.getD i (.Pass ⟨0, 0, 0, 0⟩)
def b_is_whole : Ss := (.cons (.ret (.and2 (.isi (.var 0) .int) (.not1 (.isi (.var 0) .bool)))) .nil)
def f_is_whole : Fn := ⟨1, 1, b_is_whole⟩

def b_is_among : Ss := (.cons (.ret (.and2 (.call "is_whole" (.cons (.var 0) .nil)) (.chain .le .le (.var 1) (.var 0) (.var 2)))) .nil)
def f_is_among : Fn := ⟨3, 3, b_is_among⟩

def b_is_leaf : Ss := (.cons (.ret (.call "is_among" (.cons (.var 0) (.cons (.con (.int 0)) (.cons (.glo "MOST_LEAF") .nil))))) .nil)
def f_is_leaf : Fn := ⟨1, 1, b_is_leaf⟩

def b_size_within : Ss := (.cons (.ifs (.call "is_leaf" (.cons (.var 0) .nil)) (.cons (.ret (.ite (.cmp .gt (.var 1) (.con (.int 0))) (.con (.int 1)) (.con (.int 0)))) .nil) .nil) (.cons (.ifs (.or2 (.cmp .eq (.var 1) (.con (.int 0))) (.or2 (.not1 (.isi (.var 0) .tuple)) (.cmp .gt (.blt .len (.cons (.var 0) .nil)) (.glo "MOST_THINGS")))) (.cons (.ret (.con (.int 0))) .nil) .nil) (.cons (.asg 2 (.con (.int 1))) (.cons (.for' (.nm 3) (.seq (.var 0)) (.cons (.asg 4 (.call "size_within" (.cons (.var 3) (.cons (.bin .sub (.var 1) (.con (.int 1))) .nil)))) (.cons (.asg 2 (.bin .add (.var 2) (.var 4))) (.cons (.ifs (.or2 (.cmp .eq (.var 4) (.con (.int 0))) (.cmp .gt (.var 2) (.glo "MOST_SIZE"))) (.cons (.ret (.con (.int 0))) .nil) .nil) .nil)))) (.cons (.ret (.var 2)) .nil)))))
def f_size_within : Fn := ⟨2, 5, b_size_within⟩

def b_is_worth : Ss := (.cons (.ret (.cmp .gt (.call "size_within" (.cons (.var 0) (.cons (.glo "MOST_DEEP") .nil))) (.con (.int 0)))) .nil)
def f_is_worth : Fn := ⟨1, 1, b_is_worth⟩

def b_are_worths : Ss := (.cons (.ifs (.or2 (.not1 (.isi (.var 0) .tuple)) (.not1 (.chain .le .le (.var 1) (.blt .len (.cons (.var 0) .nil)) (.var 2)))) (.cons (.ret (.con (.bl false))) .nil) .nil) (.cons (.ret (.blt .all (.cons (.comp [3] (.nm 3) (.seq (.var 0)) (.con (.bl true)) (.chain .le .le (.con (.int 1)) (.call "size_within" (.cons (.var 3) (.cons (.glo "MOST_DEEP") .nil))) (.glo "MOST_SMALL"))) .nil))) .nil))
def f_are_worths : Fn := ⟨3, 4, b_are_worths⟩

def b_is_endless : Ss := (.cons (.ifs (.or2 (.not1 (.isi (.var 0) .tuple)) (.or2 (.cmp .ne (.blt .len (.cons (.var 0) .nil)) (.con (.int 3))) (.or2 (.not1 (.isi (.ix (.var 0) (.con (.int 0))) .str)) (.cmp .ne (.ix (.var 0) (.con (.int 0))) (.glo "ENDLESS"))))) (.cons (.ret (.con (.bl false))) .nil) .nil) (.cons (.ret (.and2 (.call "are_worths" (.cons (.ix (.var 0) (.con (.int 1))) (.cons (.con (.int 0)) (.cons (.glo "MOST_STEM") .nil)))) (.call "are_worths" (.cons (.ix (.var 0) (.con (.int 2))) (.cons (.con (.int 1)) (.cons (.glo "MOST_THINGS") .nil)))))) .nil))
def f_is_endless : Fn := ⟨1, 1, b_is_endless⟩

def b_is_thing : Ss := (.cons (.ret (.or2 (.call "is_worth" (.cons (.var 0) .nil)) (.call "is_endless" (.cons (.var 0) .nil)))) .nil)
def f_is_thing : Fn := ⟨1, 1, b_is_thing⟩

def b_need_thing : Ss := (.cons (.ifs (.not1 (.call "is_thing" (.cons (.var 0) .nil))) (.cons (.raise "BadThing" .nil) .nil) .nil) .nil)
def f_need_thing : Fn := ⟨1, 1, b_need_thing⟩

def b_goes_on : Ss := (.cons (.ret (.and2 (.isi (.var 0) .tuple) (.and2 (.cmp .eq (.blt .len (.cons (.var 0) .nil)) (.con (.int 3))) (.cmp .eq (.ix (.var 0) (.con (.int 0))) (.glo "ENDLESS"))))) .nil)
def f_goes_on : Fn := ⟨1, 1, b_goes_on⟩

def b_least_round : Ss := (.cons (.for' (.nm 1) (.rng2 (.con (.int 1)) (.blt .len (.cons (.var 0) .nil))) (.cons (.ifs (.and2 (.cmp .eq (.bin .mod (.blt .len (.cons (.var 0) .nil)) (.var 1)) (.con (.int 0))) (.cmp .eq (.bin .mul (.sl (.var 0) .no (.part (.var 1))) (.bin .fdiv (.blt .len (.cons (.var 0) .nil)) (.var 1))) (.var 0))) (.cons (.ret (.sl (.var 0) .no (.part (.var 1)))) .nil) .nil) .nil)) (.cons (.ret (.var 0)) .nil))
def f_least_round : Fn := ⟨1, 2, b_least_round⟩

def b_leaned : Ss := (.cons (.asg 1 (.call "least_round" (.cons (.var 1) .nil))) (.cons (.whl (.and2 (.cmp .ne (.var 0) (.tup .nil)) (.cmp .eq (.ix (.var 0) (.neg (.con (.int 1)))) (.ix (.var 1) (.neg (.con (.int 1)))))) (.cons (.asg 1 (.bin .add (.sl (.var 1) (.part (.neg (.con (.int 1)))) .no) (.sl (.var 1) .no (.part (.neg (.con (.int 1))))))) (.cons (.asg 0 (.sl (.var 0) .no (.part (.neg (.con (.int 1)))))) .nil))) (.cons (.ret (.tup (.cons (.glo "ENDLESS") (.cons (.var 0) (.cons (.var 1) .nil))))) .nil)))
def f_leaned : Fn := ⟨2, 2, b_leaned⟩

def b_lean : Ss := (.cons (.expr (.call "need_thing" (.cons (.var 0) .nil))) (.cons (.ret (.ite (.call "goes_on" (.cons (.var 0) .nil)) (.call "leaned" (.cons (.ix (.var 0) (.con (.int 1))) (.cons (.ix (.var 0) (.con (.int 2))) .nil))) (.var 0))) .nil))
def f_lean : Fn := ⟨1, 1, b_lean⟩

def b__law_mixed : Ss := (.cons (.asg 2 (.bin .add (.bin .add (.bin .mod (.bin .mul (.bin .mul (.var 0) (.bin .add (.con (.int 1)) (.bin .mul (.con (.int 2)) (.var 1)))) (.con (.int 48271))) (.con (.int 2147483647))) (.bin .mul (.bin .mul (.con (.int 7919)) (.var 1)) (.var 1))) (.bin .mul (.con (.int 104729)) (.var 1)))) (.cons (.ret (.bin .fdiv (.bin .mod (.bin .mul (.var 2) (.con (.int 69621))) (.con (.int 2147483629))) (.con (.int 7)))) .nil))
def f__law_mixed : Fn := ⟨2, 3, b__law_mixed⟩

def b__law_folded : Ss := (.cons (.own 1 (.comp [2] (.nm 2) (.rng1 (.con (.int 64))) (.con (.bl true)) (.bin .add (.con (.int 17)) (.var 2)))) (.cons (.for' (.tp [2, 3]) (.enum (.var 0)) (.cons (.setOwn 1 (.bin .mod (.var 2) (.con (.int 64))) (.bin .mod (.bin .add (.bin .mul (.ix (.var 1) (.bin .mod (.var 2) (.con (.int 64)))) (.con (.int 48271))) (.var 3)) (.con (.int 2147483647)))) .nil)) (.cons (.for' (.nm 2) (.rng2 (.con (.int 1)) (.con (.int 64))) (.cons (.setOwn 1 (.var 2) (.bin .mod (.bin .add (.ix (.var 1) (.var 2)) (.bin .mul (.ix (.var 1) (.bin .sub (.var 2) (.con (.int 1)))) (.con (.int 16807)))) (.con (.int 2147483647)))) .nil)) (.cons (.retV 1) .nil))))
def f__law_folded : Fn := ⟨1, 4, b__law_folded⟩

def b__law_draw : Ss := (.cons (.asg 2 (.dget (.var 0) (.con (.str "at")))) (.cons (.setD (.var 0) (.con (.str "at")) (.bin .add (.var 2) (.con (.int 1)))) (.cons (.ifs (.cmp .ne (.dget (.var 0) (.con (.str "left"))) (.lst .nil)) (.cons (.asg 3 (.bin .mod (.var 2) (.blt .len (.cons (.dget (.var 0) (.con (.str "left"))) .nil)))) (.cons (.asg 4 (.ix (.dget (.var 0) (.con (.str "left"))) (.var 3))) (.cons (.ifs (.cmp .gt (.var 4) (.con (.int 0))) (.cons (.setL (.dget (.var 0) (.con (.str "left"))) (.var 3) (.bin .fdiv (.var 4) (.var 1))) (.cons (.ret (.bin .mod (.var 4) (.var 1))) .nil)) .nil) .nil))) .nil) (.cons (.ret (.bin .mod (.call "_law_mixed" (.cons (.call "_law_mixed" (.cons (.bin .add (.ix (.dget (.var 0) (.con (.str "cells"))) (.bin .mod (.var 2) (.con (.int 64)))) (.bin .mul (.con (.int 31)) (.bin .fdiv (.var 2) (.con (.int 64))))) (.cons (.var 2) .nil))) (.cons (.bin .add (.var 2) (.con (.int 7))) .nil))) (.var 1))) .nil))))
def f__law_draw : Fn := ⟨2, 5, b__law_draw⟩

def b__law_begun : Ss := (.cons (.asg 1 (.dct [.inr "cells", .inr "left", .inr "at"] (.cons (.promo (.call "_law_folded" (.cons (.var 0) .nil))) (.cons (.promo (.lst .nil)) (.cons (.con (.int 0)) .nil))))) (.cons (.setD (.var 1) (.con (.str "left")) (.promo (.comp [2] (.nm 2) (.seq (.var 0)) (.con (.bl true)) (.ite (.cmp .ge (.var 2) (.bin .pow (.con (.int 10)) (.con (.int 18)))) (.var 2) (.con (.int 0)))))) (.cons (.ret (.var 1)) .nil)))
def f__law_begun : Fn := ⟨1, 3, b__law_begun⟩

def b__law_leaf : Ss := (.cons (.ret (.ix (.lst (.cons (.con (.int 0)) (.cons (.con (.int 1)) (.cons (.con (.int 2)) (.cons (.con (.int 1)) (.cons (.con (.int 2)) (.cons (.con (.int 5)) (.cons (.con (.int 99)) (.cons (.call "_law_draw" (.cons (.var 0) (.cons (.con (.int 100)) .nil))) .nil))))))))) (.call "_law_draw" (.cons (.var 0) (.cons (.con (.int 8)) .nil))))) .nil)
def f__law_leaf : Fn := ⟨1, 1, b__law_leaf⟩

def b__law_worth : Ss := (.cons (.asgs [3, 4] (.tup (.cons (.call "_law_draw" (.cons (.var 0) (.cons (.con (.int 3)) .nil))) (.cons (.call "_law_draw" (.cons (.var 0) (.cons (.con (.int 5)) .nil))) .nil)))) (.cons (.setL (.var 2) (.con (.int 0)) (.bin .sub (.ix (.var 2) (.con (.int 0))) (.con (.int 1)))) (.cons (.ifs (.or2 (.cmp .lt (.var 1) (.con (.int 2))) (.or2 (.cmp .lt (.ix (.var 2) (.con (.int 0))) (.con (.int 1))) (.cmp .eq (.var 3) (.con (.int 0))))) (.cons (.ret (.ite (.cmp .eq (.var 4) (.con (.int 4))) (.tup .nil) (.call "_law_leaf" (.cons (.var 0) .nil)))) .nil) .nil) (.cons (.own 5 (.lst .nil)) (.cons (.for' (.nm 6) (.rng1 (.var 4)) (.cons (.ifs (.cmp .gt (.ix (.var 2) (.con (.int 0))) (.con (.int 0))) (.cons (.app 5 (.call "_law_worth" (.cons (.var 0) (.cons (.bin .sub (.var 1) (.con (.int 1))) (.cons (.var 2) .nil))))) .nil) .nil) .nil)) (.cons (.frz 5) (.cons (.ret (.blt .toTuple (.cons (.var 5) .nil))) .nil)))))))
def f__law_worth : Fn := ⟨3, 7, b__law_worth⟩

def b__law_row : Ss := (.cons (.asg 2 (.lst (.cons (.call "_law_draw" (.cons (.var 0) (.cons (.con (.int 3)) .nil))) (.cons (.call "_law_draw" (.cons (.var 0) (.cons (.con (.int 3)) .nil))) (.cons (.con (.int 5)) (.cons (.tup (.cons (.con (.int 1)) .nil)) (.cons (.tup .nil) (.cons (.tup (.cons (.con (.int 1)) (.cons (.con (.int 2)) .nil))) (.cons (.tup (.cons (.con (.int 2)) (.cons (.con (.int 1)) .nil))) (.cons (.call "_law_leaf" (.cons (.var 0) .nil)) .nil)))))))))) (.cons (.ret (.blt .toTuple (.cons (.comp [3] (.nm 3) (.rng1 (.call "_law_draw" (.cons (.var 0) (.cons (.bin .add (.var 1) (.con (.int 1))) .nil)))) (.con (.bl true)) (.ix (.var 2) (.call "_law_draw" (.cons (.var 0) (.cons (.ix (.lst (.cons (.con (.int 3)) (.cons (.con (.int 4)) (.cons (.con (.int 8)) .nil)))) (.call "_law_draw" (.cons (.var 0) (.cons (.con (.int 3)) .nil)))) .nil))))) .nil))) .nil))
def f__law_row : Fn := ⟨2, 4, b__law_row⟩

def b__law_endless : Ss := (.cons (.asgs [2, 3] (.tup (.cons (.call "_law_row" (.cons (.var 0) (.cons (.var 1) .nil))) (.cons (.bin .add (.call "_law_row" (.cons (.var 0) (.cons (.con (.int 3)) .nil))) (.tup (.cons (.call "_law_draw" (.cons (.var 0) (.cons (.con (.int 3)) .nil))) .nil))) .nil)))) (.cons (.asg 3 (.bin .mul (.var 3) (.ix (.lst (.cons (.con (.int 1)) (.cons (.con (.int 1)) (.cons (.con (.int 2)) .nil)))) (.call "_law_draw" (.cons (.var 0) (.cons (.con (.int 3)) .nil)))))) (.cons (.ret (.tup (.cons (.con (.str "endless")) (.cons (.bin .add (.var 2) (.bin .mul (.sl (.var 3) .no (.part (.call "_law_draw" (.cons (.var 0) (.cons (.bin .add (.blt .len (.cons (.var 3) .nil)) (.con (.int 1))) .nil))))) (.blt .toInt (.cons (.cmp .eq (.call "_law_draw" (.cons (.var 0) (.cons (.con (.int 3)) .nil))) (.con (.int 0))) .nil)))) (.cons (.var 3) .nil))))) .nil)))
def f__law_endless : Fn := ⟨2, 4, b__law_endless⟩

def b__law_class : Ss := (.cons (.asg 1 (.bin .add (.bin .mul (.con (.str "thing")) (.blt .toInt (.cons (.isx (.var 0) "BadThing") .nil))) (.bin .mul (.con (.str "kind")) (.blt .toInt (.cons (.isx (.var 0) "BadKind") .nil))))) (.cons (.asg 1 (.bin .add (.bin .add (.var 1) (.bin .mul (.con (.str "pattern")) (.blt .toInt (.cons (.isx (.var 0) "BadPattern") .nil)))) (.bin .mul (.con (.str "stand")) (.blt .toInt (.cons (.isx (.var 0) "BadStand") .nil))))) (.cons (.asg 1 (.bin .add (.bin .add (.var 1) (.bin .mul (.con (.str "place")) (.blt .toInt (.cons (.isx (.var 0) "BadPlace") .nil)))) (.bin .mul (.con (.str "many")) (.blt .toInt (.cons (.isx (.var 0) "TooMany") .nil))))) (.cons (.asg 1 (.bin .add (.bin .add (.var 1) (.bin .mul (.con (.str "book")) (.blt .toInt (.cons (.isx (.var 0) "BadBook") .nil)))) (.bin .mul (.con (.str "row")) (.blt .toInt (.cons (.isx (.var 0) "BadRow") .nil))))) (.cons (.ret (.ite (.and2 (.isx (.var 0) "ValueError") (.isx (.var 0) "WayError")) (.var 1) (.con (.str "else")))) .nil)))))
def f__law_class : Fn := ⟨1, 2, b__law_class⟩

def b__law_field : Ss := (.cons (.ifs (.isx (.var 0) "BadBook") (.cons (.ret (.tup (.cons (.call "_law_class" (.cons (.var 0) .nil)) (.cons (.ite (.isi (.attr (.var 0) "rule") .bool) (.con (.str "x")) (.attr (.var 0) "rule")) .nil)))) .nil) .nil) (.cons (.ifs (.not1 (.isx (.var 0) "BadRow")) (.cons (.ret (.tup (.cons (.call "_law_class" (.cons (.var 0) .nil)) .nil))) .nil) .nil) (.cons (.ret (.ite (.or2 (.isi (.attr (.var 0) "row") .bool) (.isi (.attr (.var 0) "word") .bool)) (.tup (.cons (.con (.str "x")) .nil)) (.tup (.cons (.con (.str "row")) (.cons (.attr (.var 0) "row") (.cons (.attr (.var 0) "word") .nil)))))) .nil)))
def f__law_field : Fn := ⟨1, 1, b__law_field⟩

def b__law_things : Ss := (.cons (.asgs [2, 3] (.sl (.var 0) (.part (.con (.int 1))) .no)) (.cons (.ret (.sl (.blt .toList (.cons (.bin .add (.var 2) (.bin .mul (.var 3) (.bin .add (.con (.int 1)) (.bin .fdiv (.var 1) (.blt .len (.cons (.var 3) .nil)))))) .nil)) .no (.part (.var 1)))) .nil))
def f__law_things : Fn := ⟨2, 4, b__law_things⟩

def b__law_shortest : Ss := (.cons (.asgs [1, 2] (.sl (.var 0) (.part (.con (.int 1))) .no)) (.cons (.asg 3 (.call "_law_things" (.cons (.var 0) (.cons (.bin .add (.bin .mul (.con (.int 2)) (.bin .add (.blt .len (.cons (.var 1) .nil)) (.bin .mul (.con (.int 2)) (.blt .len (.cons (.var 2) .nil))))) (.con (.int 4))) .nil)))) (.cons (.for' (.nm 4) (.rng2 (.con (.int 1)) (.bin .add (.blt .len (.cons (.var 2) .nil)) (.con (.int 1)))) (.cons (.for' (.nm 5) (.rng1 (.bin .add (.blt .len (.cons (.var 1) .nil)) (.con (.int 1)))) (.cons (.ifs (.cmp .eq (.comp [6] (.nm 6) (.rng2 (.var 5) (.bin .sub (.blt .len (.cons (.var 3) .nil)) (.var 4))) (.cmp .ne (.blt .repr (.cons (.ix (.var 3) (.var 6)) .nil)) (.blt .repr (.cons (.ix (.var 3) (.bin .add (.var 6) (.var 4))) .nil))) (.var 6)) (.lst .nil)) (.cons (.ret (.tup (.cons (.con (.str "endless")) (.cons (.blt .toTuple (.cons (.sl (.var 3) .no (.part (.var 5))) .nil)) (.cons (.blt .toTuple (.cons (.sl (.var 3) (.part (.var 5)) (.part (.bin .add (.var 5) (.var 4)))) .nil)) .nil))))) .nil) .nil) .nil)) .nil)) (.cons (.ret (.var 0)) .nil))))
def f__law_shortest : Fn := ⟨1, 7, b__law_shortest⟩

def b__law_longer : Ss := (.cons (.asgs [2, 3] (.sl (.var 1) (.part (.con (.int 1))) .no)) (.cons (.for' (.nm 4) (.rng1 (.call "_law_draw" (.cons (.var 0) (.cons (.con (.int 4)) .nil)))) (.cons (.asgs [2, 3] (.tup (.cons (.bin .add (.var 2) (.sl (.var 3) .no (.part (.con (.int 1))))) (.cons (.bin .add (.sl (.var 3) (.part (.con (.int 1))) .no) (.sl (.var 3) .no (.part (.con (.int 1))))) .nil)))) .nil)) (.cons (.ret (.tup (.cons (.con (.str "endless")) (.cons (.var 2) (.cons (.bin .mul (.var 3) (.bin .add (.con (.int 1)) (.call "_law_draw" (.cons (.var 0) (.cons (.bin .fdiv (.con (.int 10)) (.blt .len (.cons (.var 3) .nil))) .nil))))) .nil))))) .nil)))
def f__law_longer : Fn := ⟨2, 5, b__law_longer⟩

def b__law_twin : Ss := (.cons (.ifs (.isi (.var 0) .tuple) (.cons (.ret (.blt .toTuple (.cons (.comp [1] (.nm 1) (.seq (.var 0)) (.con (.bl true)) (.call "_law_twin" (.cons (.var 1) .nil))) .nil))) .nil) .nil) (.cons (.ret (.ite (.and2 (.isi (.var 0) .int) (.chain .le .le (.con (.int 0)) (.var 0) (.con (.int 1)))) (.cmp .eq (.var 0) (.con (.int 1))) (.var 0))) .nil))
def f__law_twin : Fn := ⟨1, 2, b__law_twin⟩

def b_law : Ss := (.cons (.asg 1 (.call "_law_begun" (.cons (.var 0) .nil))) (.cons (.for' (.nm 2) (.rng1 (.con (.int 16))) (.cons (.asg 3 (.call "_law_longer" (.cons (.var 1) (.cons (.call "_law_endless" (.cons (.var 1) (.cons (.con (.int 4)) .nil))) .nil)))) (.cons (.asg 4 (.call "_law_shortest" (.cons (.var 3) .nil))) (.cons (.for' (.nm 5) (.rng1 (.con (.int 2))) (.cons (.ifs (.or2 (.cmp .ne (.blt .repr (.cons (.call "lean" (.cons (.var 3) .nil)) .nil)) (.blt .repr (.cons (.var 4) .nil))) (.or2 (.cmp .ne (.blt .repr (.cons (.call "lean" (.cons (.var 4) .nil)) .nil)) (.blt .repr (.cons (.var 4) .nil))) (.not1 (.call "is_endless" (.cons (.var 4) .nil))))) (.cons (.ret (.con (.bl false))) .nil) .nil) .nil)) (.cons (.ifs (.cmp .ne (.blt .repr (.cons (.call "lean" (.cons (.call "_law_longer" (.cons (.var 1) (.cons (.var 4) .nil))) .nil)) .nil)) (.blt .repr (.cons (.var 4) .nil))) (.cons (.ret (.con (.bl false))) .nil) .nil) (.cons (.asg 6 (.call "_law_worth" (.cons (.var 1) (.cons (.con (.int 6)) (.cons (.promo (.lst (.cons (.con (.int 30)) .nil))) .nil))))) (.cons (.ifs (.cmp .ne (.blt .repr (.cons (.call "lean" (.cons (.var 6) .nil)) .nil)) (.blt .repr (.cons (.var 6) .nil))) (.cons (.ret (.con (.bl false))) .nil) .nil) (.cons (.for' (.nm 7) (.seq (.tup (.cons (.var 4) (.cons (.var 6) (.cons (.var 3) .nil))))) (.cons (.asg 8 (.call "_law_twin" (.cons (.var 7) .nil))) (.cons (.ifs (.and2 (.cmp .ne (.blt .repr (.cons (.var 8) .nil)) (.blt .repr (.cons (.var 7) .nil))) (.cmp .ne (.told "_law_field" (.call "lean" (.cons (.var 8) .nil))) (.tup (.cons (.con (.str "thing")) .nil)))) (.cons (.ret (.con (.bl false))) .nil) .nil) .nil))) .nil)))))))) (.cons (.asg 9 (.tup (.cons (.con (.str "endless")) (.cons (.bin .add (.bin .mul (.tup (.cons (.con (.int 0)) .nil)) (.con (.int 59))) (.tup (.cons (.con (.int 1)) .nil))) (.cons (.bin .mul (.tup (.cons (.con (.int 0)) (.cons (.con (.int 1)) .nil))) (.con (.int 5))) .nil))))) (.cons (.ifs (.cmp .ne (.blt .repr (.cons (.call "lean" (.cons (.var 9) .nil)) .nil)) (.blt .repr (.cons (.tup (.cons (.con (.str "endless")) (.cons (.bin .mul (.tup (.cons (.con (.int 0)) .nil)) (.con (.int 58))) (.cons (.tup (.cons (.con (.int 0)) (.cons (.con (.int 1)) .nil))) .nil)))) .nil))) (.cons (.ret (.con (.bl false))) .nil) .nil) (.cons (.asg 8 (.lst (.cons (.con .non) (.cons (.con (.str "x")) (.cons (.con (.bl true)) (.cons (.lst (.cons (.con (.str "endless")) (.cons (.tup .nil) (.cons (.tup (.cons (.con (.int 1)) .nil)) .nil)))) (.cons (.tup (.cons (.con (.str "endless")) (.cons (.tup .nil) (.cons (.tup .nil) .nil)))) (.cons (.tup (.cons (.con (.str "endless")) (.cons (.lst .nil) (.cons (.tup (.cons (.con (.int 1)) .nil)) .nil)))) (.cons (.con (.int 100)) (.cons (.dct [] .nil) .nil)))))))))) (.cons (.ret (.cmp .eq (.comp [10] (.nm 10) (.seq (.var 8)) (.con (.bl true)) (.told "_law_field" (.call "lean" (.cons (.var 10) .nil)))) (.bin .mul (.lst (.cons (.tup (.cons (.con (.str "thing")) .nil)) .nil)) (.con (.int 8))))) .nil))))))
def f_law : Fn := ⟨1, 11, b_law⟩

def tab : List (Str × Fn) := [(("is_whole" : Str), f_is_whole), (("is_among" : Str), f_is_among), (("is_leaf" : Str), f_is_leaf), (("size_within" : Str), f_size_within), (("is_worth" : Str), f_is_worth), (("are_worths" : Str), f_are_worths), (("is_endless" : Str), f_is_endless), (("is_thing" : Str), f_is_thing), (("need_thing" : Str), f_need_thing), (("goes_on" : Str), f_goes_on), (("least_round" : Str), f_least_round), (("leaned" : Str), f_leaned), (("lean" : Str), f_lean), (("_law_mixed" : Str), f__law_mixed), (("_law_folded" : Str), f__law_folded), (("_law_draw" : Str), f__law_draw), (("_law_begun" : Str), f__law_begun), (("_law_leaf" : Str), f__law_leaf), (("_law_worth" : Str), f__law_worth), (("_law_row" : Str), f__law_row), (("_law_endless" : Str), f__law_endless), (("_law_class" : Str), f__law_class), (("_law_field" : Str), f__law_field), (("_law_things" : Str), f__law_things), (("_law_shortest" : Str), f__law_shortest), (("_law_longer" : Str), f__law_longer), (("_law_twin" : Str), f__law_twin), (("law" : Str), f_law)]
def T : Tab := fun x => tab.lookup x
theorem T_is_whole : T "is_whole" = some f_is_whole := by rfl
theorem T_is_among : T "is_among" = some f_is_among := by rfl
theorem T_is_leaf : T "is_leaf" = some f_is_leaf := by rfl
theorem T_size_within : T "size_within" = some f_size_within := by rfl
theorem T_is_worth : T "is_worth" = some f_is_worth := by rfl
theorem T_are_worths : T "are_worths" = some f_are_worths := by rfl
theorem T_is_endless : T "is_endless" = some f_is_endless := by rfl
theorem T_is_thing : T "is_thing" = some f_is_thing := by rfl
theorem T_need_thing : T "need_thing" = some f_need_thing := by rfl
theorem T_goes_on : T "goes_on" = some f_goes_on := by rfl
theorem T_least_round : T "least_round" = some f_least_round := by rfl
theorem T_leaned : T "leaned" = some f_leaned := by rfl
theorem T_lean : T "lean" = some f_lean := by rfl
theorem T__law_mixed : T "_law_mixed" = some f__law_mixed := by rfl
theorem T__law_folded : T "_law_folded" = some f__law_folded := by rfl
theorem T__law_draw : T "_law_draw" = some f__law_draw := by rfl
theorem T__law_begun : T "_law_begun" = some f__law_begun := by rfl
theorem T__law_leaf : T "_law_leaf" = some f__law_leaf := by rfl
theorem T__law_worth : T "_law_worth" = some f__law_worth := by rfl
theorem T__law_row : T "_law_row" = some f__law_row := by rfl
theorem T__law_endless : T "_law_endless" = some f__law_endless := by rfl
theorem T__law_class : T "_law_class" = some f__law_class := by rfl
theorem T__law_field : T "_law_field" = some f__law_field := by rfl
theorem T__law_things : T "_law_things" = some f__law_things := by rfl
theorem T__law_shortest : T "_law_shortest" = some f__law_shortest := by rfl
theorem T__law_longer : T "_law_longer" = some f__law_longer := by rfl
theorem T__law_twin : T "_law_twin" = some f__law_twin := by rfl
theorem T_law : T "law" = some f_law := by rfl
def glob : List (Str × D) := [(("MOST_LEAF" : Str), .int 99), (("MOST_THINGS" : Str), .int 10), (("MOST_SIZE" : Str), .int 60), (("MOST_DEEP" : Str), .int 6), (("MOST_STEM" : Str), .int 60), (("MOST_SMALL" : Str), .int 5), (("ENDLESS" : Str), .str "endless")]
def G : Str → Option D := fun x => glob.lookup x
theorem G_MOST_LEAF : G "MOST_LEAF" = some (.int 99) := by rfl
theorem G_MOST_THINGS : G "MOST_THINGS" = some (.int 10) := by rfl
theorem G_MOST_SIZE : G "MOST_SIZE" = some (.int 60) := by rfl
theorem G_MOST_DEEP : G "MOST_DEEP" = some (.int 6) := by rfl
theorem G_MOST_STEM : G "MOST_STEM" = some (.int 60) := by rfl
theorem G_MOST_SMALL : G "MOST_SMALL" = some (.int 5) := by rfl
theorem G_ENDLESS : G "ENDLESS" = some (.str "endless") := by rfl
def bs : List Str := [("isinstance" : Str), ("int" : Str), ("bool" : Str), ("tuple" : Str), ("len" : Str), ("all" : Str), ("str" : Str), ("range" : Str), ("enumerate" : Str), ("ValueError" : Str), ("list" : Str), ("repr" : Str)]
def cls : List Str := [("WayError" : Str), ("BadThing" : Str), ("BadKind" : Str), ("BadPattern" : Str), ("BadStand" : Str), ("BadPlace" : Str), ("TooMany" : Str), ("BadBook" : Str), ("BadRow" : Str)]
def lams : List Str := [("law" : Str)]
def tolds : List (Str × Str) := [(("_law_told" : Str), ("_law_field" : Str))]
theorem tn__law_told : ToldN (topS 43) "_law_deed" "_law_error" "_law_found" "e" "_law_field" := ⟨⟨rfl, rfl, rfl, by decide +kernel, rfl, by decide +kernel, by decide +kernel⟩, ⟨_, _, _, _, _, _, _, _, _, _, _, _, _, _, _, _, _, _, _, _, _, _, _, _, _, _, _, _, rfl⟩, .inl rfl, by decide, rfl, rfl, rfl, rfl, rfl, by decide, by decide, by decide, by decide, by decide, by decide, by decide, by decide, by decide⟩
variable [Tb]
theorem sc_is_whole : FnScope ["thing"] ["thing"] (defScope (topS 12)) := ⟨rfl, rfl, rfl, by decide +kernel, rfl, by decide +kernel, by decide +kernel⟩
theorem tie_is_whole {w : World} {K : PySem.W.Frag} {mg : Str → Option Value} {base : Heap} {fa : Addr} {fd : FuncData} (ef : ExF K mg cls) (hg : glA K "is_whole" = some fa) (hm : mg "is_whole" = some (.ref fa)) (F : Fun K "is_whole" "is_whole" (topS 12) fa fd) : Tied prog w K mg base T G bs "is_whole" f_is_whole := by
  refine ⟨fa, fd, ["thing"], ["thing"], topS 12, "is_whole", hm, hg, F, F.binds (fun _ _ _ _ _ _ us hl => match us, hl with | [_], _ => rfl), sc_is_whole, rfl, rfl, fun k C cdv hcv A outer s H E hs ce => ?_⟩
  have S := sc_is_whole
  exact blk_cons (st_ret (sim_and (sim_isi .int (sim_var 0) hs.no hs.no) (sim_last (sim_not (sim_isi .bool (sim_var 0) hs.no hs.no))))) (blk_nil)

theorem sc_is_among : FnScope ["thing", "least", "most"] ["thing", "least", "most"] (defScope (topS 13)) := ⟨rfl, rfl, rfl, by decide +kernel, rfl, by decide +kernel, by decide +kernel⟩
theorem tie_is_among {w : World} {K : PySem.W.Frag} {mg : Str → Option Value} {base : Heap} {fa : Addr} {fd : FuncData} (ef : ExF K mg cls) (hg : glA K "is_among" = some fa) (hm : mg "is_among" = some (.ref fa)) (F : Fun K "is_among" "is_among" (topS 13) fa fd) : Tied prog w K mg base T G bs "is_among" f_is_among := by
  refine ⟨fa, fd, ["thing", "least", "most"], ["thing", "least", "most"], topS 13, "is_among", hm, hg, F, F.binds (fun _ _ _ _ _ _ us hl => match us, hl with | [_, _, _], _ => rfl), sc_is_among, rfl, rfl, fun k C cdv hcv A outer s H E hs ce => ?_⟩
  have S := sc_is_among
  exact blk_cons (st_ret (sim_and (sim_call (hs.call _ _ T_is_whole) hs.room hs.gd hs.tk (args_cons (sim_var 0) (args_nil))) (sim_last (sim_chain cr_le cr_le (sim_var 1) (sim_var 0) (sim_var 2))))) (blk_nil)

theorem sc_is_leaf : FnScope ["thing"] ["thing"] (defScope (topS 21)) := ⟨rfl, rfl, rfl, by decide +kernel, rfl, by decide +kernel, by decide +kernel⟩
theorem tie_is_leaf {w : World} {K : PySem.W.Frag} {mg : Str → Option Value} {base : Heap} {fa : Addr} {fd : FuncData} (ef : ExF K mg cls) (hg : glA K "is_leaf" = some fa) (hm : mg "is_leaf" = some (.ref fa)) (F : Fun K "is_leaf" "is_leaf" (topS 21) fa fd) : Tied prog w K mg base T G bs "is_leaf" f_is_leaf := by
  refine ⟨fa, fd, ["thing"], ["thing"], topS 21, "is_leaf", hm, hg, F, F.binds (fun _ _ _ _ _ _ us hl => match us, hl with | [_], _ => rfl), sc_is_leaf, rfl, rfl, fun k C cdv hcv A outer s H E hs ce => ?_⟩
  have S := sc_is_leaf
  exact blk_cons (st_ret (sim_call (hs.call _ _ T_is_among) hs.room hs.gd hs.tk (args_cons (sim_var 0) (args_cons (sim_int) (args_cons (sim_glo hs.glob) (args_nil)))))) (blk_nil)

theorem sc_size_within : FnScope ["thing", "deep", "found", "one", "many"] ["thing", "deep"] (defScope (topS 22)) := ⟨rfl, rfl, rfl, by decide +kernel, rfl, by decide +kernel, by decide +kernel⟩
theorem tie_size_within {w : World} {K : PySem.W.Frag} {mg : Str → Option Value} {base : Heap} {fa : Addr} {fd : FuncData} (ef : ExF K mg cls) (hg : glA K "size_within" = some fa) (hm : mg "size_within" = some (.ref fa)) (F : Fun K "size_within" "size_within" (topS 22) fa fd) : Tied prog w K mg base T G bs "size_within" f_size_within := by
  refine ⟨fa, fd, ["thing", "deep"], ["thing", "deep", "found", "one", "many"], topS 22, "size_within", hm, hg, F, F.binds (fun _ _ _ _ _ _ us hl => match us, hl with | [_, _], _ => rfl), sc_size_within, rfl, rfl, fun k C cdv hcv A outer s H E hs ce => ?_⟩
  have S := sc_size_within
  exact blk_cons (st_if (tst_val (sim_call (hs.call _ _ T_is_leaf) hs.room hs.gd hs.tk (args_cons (sim_var 0) (args_nil)))) (blk_cons (st_ret (sim_ite (tst_cmp cr_gt (sim_var 1) (sim_int)) (sim_int) (sim_int))) (blk_nil)) (blk_nil)) (blk_cons (st_if ((tst_or (tst_cmp (cr_eq hs.hu64) (sim_var 1) (sim_int)) (tst_or (tst_not (tst_val (sim_isi .tuple (sim_var 0) hs.no hs.no))) (tst_last (tst_cmp cr_gt (sim_blt br_len (args_cons (sim_var 0) (args_nil)) hs.no (by decide +kernel)) (sim_glo hs.glob))))).pt) (blk_cons (st_ret (sim_int)) (blk_nil)) (blk_nil)) (blk_cons (st_asg 2 S.nd (sim_int)) (blk_cons (st_for (passes_of rfl) rfl (it_seq (sim_var 0)) (tg_name 3 S.nd) (blk_cons (st_asg 4 S.nd (sim_call (hs.call _ _ T_size_within) hs.room hs.gd hs.tk (args_cons (sim_var 3) (args_cons (sim_sub (sim_var 1) (sim_int)) (args_nil))))) (blk_cons (st_asg 2 S.nd (sim_add (sim_var 2) (sim_var 4))) (blk_cons (st_if ((tst_or (tst_cmp (cr_eq hs.hu64) (sim_var 4) (sim_int)) (tst_last (tst_cmp cr_gt (sim_var 2) (sim_glo hs.glob)))).pt) (blk_cons (st_ret (sim_int)) (blk_nil)) (blk_nil)) (blk_nil))))) (blk_cons (st_ret (sim_var 2)) (blk_nil)))))

theorem sc_is_worth : FnScope ["thing"] ["thing"] (defScope (topS 23)) := ⟨rfl, rfl, rfl, by decide +kernel, rfl, by decide +kernel, by decide +kernel⟩
theorem tie_is_worth {w : World} {K : PySem.W.Frag} {mg : Str → Option Value} {base : Heap} {fa : Addr} {fd : FuncData} (ef : ExF K mg cls) (hg : glA K "is_worth" = some fa) (hm : mg "is_worth" = some (.ref fa)) (F : Fun K "is_worth" "is_worth" (topS 23) fa fd) : Tied prog w K mg base T G bs "is_worth" f_is_worth := by
  refine ⟨fa, fd, ["thing"], ["thing"], topS 23, "is_worth", hm, hg, F, F.binds (fun _ _ _ _ _ _ us hl => match us, hl with | [_], _ => rfl), sc_is_worth, rfl, rfl, fun k C cdv hcv A outer s H E hs ce => ?_⟩
  have S := sc_is_worth
  exact blk_cons (st_ret (sim_cmp cr_gt (sim_call (hs.call _ _ T_size_within) hs.room hs.gd hs.tk (args_cons (sim_var 0) (args_cons (sim_glo hs.glob) (args_nil)))) (sim_int))) (blk_nil)

theorem sc_are_worths : FnScope ["thing", "least", "most", "one"] ["thing", "least", "most"] (defScope (topS 24)) := ⟨rfl, rfl, rfl, by decide +kernel, rfl, by decide +kernel, by decide +kernel⟩
theorem tie_are_worths {w : World} {K : PySem.W.Frag} {mg : Str → Option Value} {base : Heap} {fa : Addr} {fd : FuncData} (ef : ExF K mg cls) (hg : glA K "are_worths" = some fa) (hm : mg "are_worths" = some (.ref fa)) (F : Fun K "are_worths" "are_worths" (topS 24) fa fd) : Tied prog w K mg base T G bs "are_worths" f_are_worths := by
  refine ⟨fa, fd, ["thing", "least", "most"], ["thing", "least", "most", "one"], topS 24, "are_worths", hm, hg, F, F.binds (fun _ _ _ _ _ _ us hl => match us, hl with | [_, _, _], _ => rfl), sc_are_worths, rfl, rfl, fun k C cdv hcv A outer s H E hs ce => ?_⟩
  have S := sc_are_worths
  exact blk_cons (st_if ((tst_or (tst_not (tst_val (sim_isi .tuple (sim_var 0) hs.no hs.no))) (tst_last (tst_not (tst_chain cr_le cr_le (sim_var 1) (sim_blt br_len (args_cons (sim_var 0) (args_nil)) hs.no (by decide +kernel)) (sim_var 2))))).pt) (blk_cons (st_ret (sim_bl)) (blk_nil)) (blk_nil)) (blk_cons (st_ret (sim_blt (br_all rfl) (args_cons (sim_comp [("one", 3)] rfl S.nd (it_seq (sim_var 0)) (by first | (show blkC ["thing", "least", "most", "one"] (defScope (topS 24)) _ _ = true; decide +kernel) | rfl) (by decide +kernel) (fun _ _ _ _ _ => tg_name 3 S.nd) (fun _ _ _ _ _ => tsts_no) (fun _ _ _ _ _ => sim_chain cr_le cr_le (sim_int) (sim_call ((hs.blk _ _ _ _ _).call _ _ T_size_within) (hs.blk _ _ _ _ _).room (hs.blk _ _ _ _ _).gd (hs.blk _ _ _ _ _).tk (args_cons (sim_var 3) (args_cons (sim_glo (hs.blk _ _ _ _ _).glob) (args_nil)))) (sim_glo (hs.blk _ _ _ _ _).glob))) (args_nil)) hs.no (by decide +kernel))) (blk_nil))

theorem sc_is_endless : FnScope ["thing"] ["thing"] (defScope (topS 25)) := ⟨rfl, rfl, rfl, by decide +kernel, rfl, by decide +kernel, by decide +kernel⟩
theorem tie_is_endless {w : World} {K : PySem.W.Frag} {mg : Str → Option Value} {base : Heap} {fa : Addr} {fd : FuncData} (ef : ExF K mg cls) (hg : glA K "is_endless" = some fa) (hm : mg "is_endless" = some (.ref fa)) (F : Fun K "is_endless" "is_endless" (topS 25) fa fd) : Tied prog w K mg base T G bs "is_endless" f_is_endless := by
  refine ⟨fa, fd, ["thing"], ["thing"], topS 25, "is_endless", hm, hg, F, F.binds (fun _ _ _ _ _ _ us hl => match us, hl with | [_], _ => rfl), sc_is_endless, rfl, rfl, fun k C cdv hcv A outer s H E hs ce => ?_⟩
  have S := sc_is_endless
  exact blk_cons (st_if ((tst_or (tst_not (tst_val (sim_isi .tuple (sim_var 0) hs.no hs.no))) (tst_or (tst_cmp (cr_ne hs.hu64) (sim_blt br_len (args_cons (sim_var 0) (args_nil)) hs.no (by decide +kernel)) (sim_int)) (tst_or (tst_not (tst_val (sim_isi .str (sim_ix (sim_var 0) (sim_int)) hs.no hs.no))) (tst_last (tst_cmp (cr_ne hs.hu64) (sim_ix (sim_var 0) (sim_int)) (sim_glo hs.glob)))))).pt) (blk_cons (st_ret (sim_bl)) (blk_nil)) (blk_nil)) (blk_cons (st_ret (sim_and (sim_call (hs.call _ _ T_are_worths) hs.room hs.gd hs.tk (args_cons (sim_ix (sim_var 0) (sim_int)) (args_cons (sim_int) (args_cons (sim_glo hs.glob) (args_nil))))) (sim_last (sim_call (hs.call _ _ T_are_worths) hs.room hs.gd hs.tk (args_cons (sim_ix (sim_var 0) (sim_int)) (args_cons (sim_int) (args_cons (sim_glo hs.glob) (args_nil)))))))) (blk_nil))

theorem sc_is_thing : FnScope ["thing"] ["thing"] (defScope (topS 26)) := ⟨rfl, rfl, rfl, by decide +kernel, rfl, by decide +kernel, by decide +kernel⟩
theorem tie_is_thing {w : World} {K : PySem.W.Frag} {mg : Str → Option Value} {base : Heap} {fa : Addr} {fd : FuncData} (ef : ExF K mg cls) (hg : glA K "is_thing" = some fa) (hm : mg "is_thing" = some (.ref fa)) (F : Fun K "is_thing" "is_thing" (topS 26) fa fd) : Tied prog w K mg base T G bs "is_thing" f_is_thing := by
  refine ⟨fa, fd, ["thing"], ["thing"], topS 26, "is_thing", hm, hg, F, F.binds (fun _ _ _ _ _ _ us hl => match us, hl with | [_], _ => rfl), sc_is_thing, rfl, rfl, fun k C cdv hcv A outer s H E hs ce => ?_⟩
  have S := sc_is_thing
  exact blk_cons (st_ret (sim_or (sim_call (hs.call _ _ T_is_worth) hs.room hs.gd hs.tk (args_cons (sim_var 0) (args_nil))) (sim_last (sim_call (hs.call _ _ T_is_endless) hs.room hs.gd hs.tk (args_cons (sim_var 0) (args_nil)))))) (blk_nil)

theorem sc_need_thing : FnScope ["thing"] ["thing"] (defScope (topS 27)) := ⟨rfl, rfl, rfl, by decide +kernel, rfl, by decide +kernel, by decide +kernel⟩
theorem tie_need_thing {w : World} {K : PySem.W.Frag} {mg : Str → Option Value} {base : Heap} {fa : Addr} {fd : FuncData} (ef : ExF K mg cls) (hg : glA K "need_thing" = some fa) (hm : mg "need_thing" = some (.ref fa)) (F : Fun K "need_thing" "need_thing" (topS 27) fa fd) : Tied prog w K mg base T G bs "need_thing" f_need_thing := by
  refine ⟨fa, fd, ["thing"], ["thing"], topS 27, "need_thing", hm, hg, F, F.binds (fun _ _ _ _ _ _ us hl => match us, hl with | [_], _ => rfl), sc_need_thing, rfl, rfl, fun k C cdv hcv A outer s H E hs ce => ?_⟩
  have S := sc_need_thing
  exact blk_cons (st_if (tst_not (tst_val (sim_call (hs.call _ _ T_is_thing) hs.room hs.gd hs.tk (args_cons (sim_var 0) (args_nil))))) (blk_cons (st_raise1 ef rfl hs.tk) (blk_nil)) (blk_nil)) (blk_nil)

theorem sc_goes_on : FnScope ["thing"] ["thing"] (defScope (topS 28)) := ⟨rfl, rfl, rfl, by decide +kernel, rfl, by decide +kernel, by decide +kernel⟩
theorem tie_goes_on {w : World} {K : PySem.W.Frag} {mg : Str → Option Value} {base : Heap} {fa : Addr} {fd : FuncData} (ef : ExF K mg cls) (hg : glA K "goes_on" = some fa) (hm : mg "goes_on" = some (.ref fa)) (F : Fun K "goes_on" "goes_on" (topS 28) fa fd) : Tied prog w K mg base T G bs "goes_on" f_goes_on := by
  refine ⟨fa, fd, ["thing"], ["thing"], topS 28, "goes_on", hm, hg, F, F.binds (fun _ _ _ _ _ _ us hl => match us, hl with | [_], _ => rfl), sc_goes_on, rfl, rfl, fun k C cdv hcv A outer s H E hs ce => ?_⟩
  have S := sc_goes_on
  exact blk_cons (st_ret (sim_and (sim_isi .tuple (sim_var 0) hs.no hs.no) (sim_and (sim_cmp (cr_eq hs.hu64) (sim_blt br_len (args_cons (sim_var 0) (args_nil)) hs.no (by decide +kernel)) (sim_int)) (sim_last (sim_cmp (cr_eq hs.hu64) (sim_ix (sim_var 0) (sim_int)) (sim_glo hs.glob)))))) (blk_nil)

theorem sc_least_round : FnScope ["around", "many"] ["around"] (defScope (topS 29)) := ⟨rfl, rfl, rfl, by decide +kernel, rfl, by decide +kernel, by decide +kernel⟩
theorem tie_least_round {w : World} {K : PySem.W.Frag} {mg : Str → Option Value} {base : Heap} {fa : Addr} {fd : FuncData} (ef : ExF K mg cls) (hg : glA K "least_round" = some fa) (hm : mg "least_round" = some (.ref fa)) (F : Fun K "least_round" "least_round" (topS 29) fa fd) : Tied prog w K mg base T G bs "least_round" f_least_round := by
  refine ⟨fa, fd, ["around"], ["around", "many"], topS 29, "least_round", hm, hg, F, F.binds (fun _ _ _ _ _ _ us hl => match us, hl with | [_], _ => rfl), sc_least_round, rfl, rfl, fun k C cdv hcv A outer s H E hs ce => ?_⟩
  have S := sc_least_round
  exact blk_cons (st_for (passes_of rfl) rfl (it_rng2 hs.no (sim_int) (sim_blt br_len (args_cons (sim_var 0) (args_nil)) hs.no (by decide +kernel))) (tg_name 1 S.nd) (blk_cons (st_if ((tst_and (tst_cmp (cr_eq hs.hu64) (sim_mod (sim_blt br_len (args_cons (sim_var 0) (args_nil)) hs.no (by decide +kernel)) (sim_var 1)) (sim_int)) (tst_last (tst_cmp (cr_eq hs.hu64) (sim_mul (sim_sl (sim_var 0) part_no (part_some (sim_var 1))) (sim_fdiv (sim_blt br_len (args_cons (sim_var 0) (args_nil)) hs.no (by decide +kernel)) (sim_var 1))) (sim_var 0)))).pt) (blk_cons (st_ret (sim_sl (sim_var 0) part_no (part_some (sim_var 1)))) (blk_nil)) (blk_nil)) (blk_nil))) (blk_cons (st_ret (sim_var 0)) (blk_nil))

theorem sc_leaned : FnScope ["stem", "around"] ["stem", "around"] (defScope (topS 30)) := ⟨rfl, rfl, rfl, by decide +kernel, rfl, by decide +kernel, by decide +kernel⟩
theorem tie_leaned {w : World} {K : PySem.W.Frag} {mg : Str → Option Value} {base : Heap} {fa : Addr} {fd : FuncData} (ef : ExF K mg cls) (hg : glA K "leaned" = some fa) (hm : mg "leaned" = some (.ref fa)) (F : Fun K "leaned" "leaned" (topS 30) fa fd) : Tied prog w K mg base T G bs "leaned" f_leaned := by
  refine ⟨fa, fd, ["stem", "around"], ["stem", "around"], topS 30, "leaned", hm, hg, F, F.binds (fun _ _ _ _ _ _ us hl => match us, hl with | [_, _], _ => rfl), sc_leaned, rfl, rfl, fun k C cdv hcv A outer s H E hs ce => ?_⟩
  have S := sc_leaned
  exact blk_cons (st_asg 1 S.nd (sim_call (hs.call _ _ T_least_round) hs.room hs.gd hs.tk (args_cons (sim_var 1) (args_nil)))) (blk_cons (st_whl (passes_of rfl) ((tst_and (tst_cmp (cr_ne hs.hu64) (sim_var 0) (sim_tup (args_nil))) (tst_last (tst_cmp (cr_eq hs.hu64) (sim_ix (sim_var 0) (sim_neg (sim_int))) (sim_ix (sim_var 1) (sim_neg (sim_int)))))).pt) (blk_cons (st_asg 1 S.nd (sim_add (sim_sl (sim_var 1) (part_some (sim_neg (sim_int))) part_no) (sim_sl (sim_var 1) part_no (part_some (sim_neg (sim_int)))))) (blk_cons (st_asg 0 S.nd (sim_sl (sim_var 0) part_no (part_some (sim_neg (sim_int))))) (blk_nil)))) (blk_cons (st_ret (sim_tup (args_cons (sim_glo hs.glob) (args_cons (sim_var 0) (args_cons (sim_var 1) (args_nil)))))) (blk_nil)))

theorem sc_lean : FnScope ["thing"] ["thing"] (defScope (topS 31)) := ⟨rfl, rfl, rfl, by decide +kernel, rfl, by decide +kernel, by decide +kernel⟩
theorem tie_lean {w : World} {K : PySem.W.Frag} {mg : Str → Option Value} {base : Heap} {fa : Addr} {fd : FuncData} (ef : ExF K mg cls) (hg : glA K "lean" = some fa) (hm : mg "lean" = some (.ref fa)) (F : Fun K "lean" "lean" (topS 31) fa fd) : Tied prog w K mg base T G bs "lean" f_lean := by
  refine ⟨fa, fd, ["thing"], ["thing"], topS 31, "lean", hm, hg, F, F.binds (fun _ _ _ _ _ _ us hl => match us, hl with | [_], _ => rfl), sc_lean, rfl, rfl, fun k C cdv hcv A outer s H E hs ce => ?_⟩
  have S := sc_lean
  exact blk_cons (st_expr (sim_call (hs.call _ _ T_need_thing) hs.room hs.gd hs.tk (args_cons (sim_var 0) (args_nil)))) (blk_cons (st_ret (sim_ite (tst_val (sim_call (hs.call _ _ T_goes_on) hs.room hs.gd hs.tk (args_cons (sim_var 0) (args_nil)))) (sim_call (hs.call _ _ T_leaned) hs.room hs.gd hs.tk (args_cons (sim_ix (sim_var 0) (sim_int)) (args_cons (sim_ix (sim_var 0) (sim_int)) (args_nil)))) (sim_var 0))) (blk_nil))

theorem sc__law_mixed : FnScope ["_law_cell", "_law_k", "_law_number"] ["_law_cell", "_law_k"] (defScope (topS 33)) := ⟨rfl, rfl, rfl, by decide +kernel, rfl, by decide +kernel, by decide +kernel⟩
theorem tie__law_mixed {w : World} {K : PySem.W.Frag} {mg : Str → Option Value} {base : Heap} {fa : Addr} {fd : FuncData} (ef : ExF K mg cls) (hg : glA K "_law_mixed" = some fa) (hm : mg "_law_mixed" = some (.ref fa)) (F : Fun K "_law_mixed" "_law_mixed" (topS 33) fa fd) : Tied prog w K mg base T G bs "_law_mixed" f__law_mixed := by
  refine ⟨fa, fd, ["_law_cell", "_law_k"], ["_law_cell", "_law_k", "_law_number"], topS 33, "_law_mixed", hm, hg, F, F.binds (fun _ _ _ _ _ _ us hl => match us, hl with | [_, _], _ => rfl), sc__law_mixed, rfl, rfl, fun k C cdv hcv A outer s H E hs ce => ?_⟩
  have S := sc__law_mixed
  exact blk_cons (st_asg 2 S.nd (sim_add (sim_add (sim_mod (sim_mul (sim_mul (sim_var 0) (sim_add (sim_int) (sim_mul (sim_int) (sim_var 1)))) (sim_int)) (sim_int)) (sim_mul (sim_mul (sim_int) (sim_var 1)) (sim_var 1))) (sim_mul (sim_int) (sim_var 1)))) (blk_cons (st_ret (sim_fdiv (sim_mod (sim_mul (sim_var 2) (sim_int)) (sim_int)) (sim_int))) (blk_nil))

theorem sc__law_folded : FnScope ["_law_script", "_law_found", "_law_k", "_law_cell"] ["_law_script"] (defScope (topS 34)) := ⟨rfl, rfl, rfl, by decide +kernel, rfl, by decide +kernel, by decide +kernel⟩
theorem tie__law_folded {w : World} {K : PySem.W.Frag} {mg : Str → Option Value} {base : Heap} {fa : Addr} {fd : FuncData} (ef : ExF K mg cls) (hg : glA K "_law_folded" = some fa) (hm : mg "_law_folded" = some (.ref fa)) (F : Fun K "_law_folded" "_law_folded" (topS 34) fa fd) : Tied prog w K mg base T G bs "_law_folded" f__law_folded := by
  refine ⟨fa, fd, ["_law_script"], ["_law_script", "_law_found", "_law_k", "_law_cell"], topS 34, "_law_folded", hm, hg, F, F.binds (fun _ _ _ _ _ _ us hl => match us, hl with | [_], _ => rfl), sc__law_folded, rfl, rfl, fun k C cdv hcv A outer s H E hs ce => ?_⟩
  have S := sc__law_folded
  exact blk_cons (st_ownC 1 [("_law_k", 2)] rfl S.nd (it_rng1 hs.no (sim_int)) (by first | (show blkC ["_law_script", "_law_found", "_law_k", "_law_cell"] (defScope (topS 34)) _ _ = true; decide +kernel) | rfl) (by decide +kernel) (fun _ _ _ _ _ => tg_name 2 S.nd) (fun _ _ _ _ _ => tsts_no) (fun _ _ _ _ _ => sim_add (sim_int) (sim_var 2)) (sw_true rfl rfl rfl (by decide +kernel))) (blk_cons (st_for (passes_of rfl) rfl (it_enum hs.no (sim_var 0)) (tg_tup rfl (tgs_cons 2 S.nd (tgs_cons 3 S.nd (tgs_nil)))) (blk_cons (st_setOwn 1 (sim_mod (sim_add (sim_mul (sim_ix (sim_var 1) (sim_mod (sim_var 2) (sim_int))) (sim_int)) (sim_var 3)) (sim_int)) (sim_mod (sim_var 2) (sim_int)) (pv 1)) (blk_nil))) (blk_cons (st_for (passes_of rfl) rfl (it_rng2 hs.no (sim_int) (sim_int)) (tg_name 2 S.nd) (blk_cons (st_setOwn 1 (sim_mod (sim_add (sim_ix (sim_var 1) (sim_var 2)) (sim_mul (sim_ix (sim_var 1) (sim_sub (sim_var 2) (sim_int))) (sim_int))) (sim_int)) (sim_var 2) (pv 1)) (blk_nil))) (blk_cons (st_retV 1 (pv 1)) (blk_nil))))

theorem sc__law_draw : FnScope ["_law_m", "_law_many", "_law_k", "_law_at", "_law_cell"] ["_law_m", "_law_many"] (defScope (topS 35)) := ⟨rfl, rfl, rfl, by decide +kernel, rfl, by decide +kernel, by decide +kernel⟩
theorem tie__law_draw {w : World} {K : PySem.W.Frag} {mg : Str → Option Value} {base : Heap} {fa : Addr} {fd : FuncData} (ef : ExF K mg cls) (hg : glA K "_law_draw" = some fa) (hm : mg "_law_draw" = some (.ref fa)) (F : Fun K "_law_draw" "_law_draw" (topS 35) fa fd) : Tied prog w K mg base T G bs "_law_draw" f__law_draw := by
  refine ⟨fa, fd, ["_law_m", "_law_many"], ["_law_m", "_law_many", "_law_k", "_law_at", "_law_cell"], topS 35, "_law_draw", hm, hg, F, F.binds (fun _ _ _ _ _ _ us hl => match us, hl with | [_, _], _ => rfl), sc__law_draw, rfl, rfl, fun k C cdv hcv A outer s H E hs ce => ?_⟩
  have S := sc__law_draw
  exact blk_cons (st_asg 2 S.nd (sim_dget hs.hu (sim_var 0) (sim_str))) (blk_cons (st_setD hs.hu (sim_add (sim_var 2) (sim_int)) (sim_var 0) (sim_str)) (blk_cons (st_if (tst_cmp (cr_ne hs.hu64) (sim_dget hs.hu (sim_var 0) (sim_str)) (sim_lst (args_nil))) (blk_cons (st_asg 3 S.nd (sim_mod (sim_var 2) (sim_blt br_len (args_cons (sim_dget hs.hu (sim_var 0) (sim_str)) (args_nil)) hs.no (by decide +kernel)))) (blk_cons (st_asg 4 S.nd (sim_ix (sim_dget hs.hu (sim_var 0) (sim_str)) (sim_var 3))) (blk_cons (st_if (tst_cmp cr_gt (sim_var 4) (sim_int)) (blk_cons (st_setL (sim_fdiv (sim_var 4) (sim_var 1)) (sim_dget hs.hu (sim_var 0) (sim_str)) (sim_var 3)) (blk_cons (st_ret (sim_mod (sim_var 4) (sim_var 1))) (blk_nil))) (blk_nil)) (blk_nil)))) (blk_nil)) (blk_cons (st_ret (sim_mod (sim_call (hs.call _ _ T__law_mixed) hs.room hs.gd hs.tk (args_cons (sim_call (hs.call _ _ T__law_mixed) hs.room hs.gd hs.tk (args_cons (sim_add (sim_ix (sim_dget hs.hu (sim_var 0) (sim_str)) (sim_mod (sim_var 2) (sim_int))) (sim_mul (sim_int) (sim_fdiv (sim_var 2) (sim_int)))) (args_cons (sim_var 2) (args_nil)))) (args_cons (sim_add (sim_var 2) (sim_int)) (args_nil)))) (sim_var 1))) (blk_nil))))

theorem sc__law_begun : FnScope ["_law_script", "_law_m", "_law_cell"] ["_law_script"] (defScope (topS 36)) := ⟨rfl, rfl, rfl, by decide +kernel, rfl, by decide +kernel, by decide +kernel⟩
theorem tie__law_begun {w : World} {K : PySem.W.Frag} {mg : Str → Option Value} {base : Heap} {fa : Addr} {fd : FuncData} (ef : ExF K mg cls) (hg : glA K "_law_begun" = some fa) (hm : mg "_law_begun" = some (.ref fa)) (F : Fun K "_law_begun" "_law_begun" (topS 36) fa fd) : Tied prog w K mg base T G bs "_law_begun" f__law_begun := by
  refine ⟨fa, fd, ["_law_script"], ["_law_script", "_law_m", "_law_cell"], topS 36, "_law_begun", hm, hg, F, F.binds (fun _ _ _ _ _ _ us hl => match us, hl with | [_], _ => rfl), sc__law_begun, rfl, rfl, fun k C cdv hcv A outer s H E hs ce => ?_⟩
  have S := sc__law_begun
  exact blk_cons (st_asg 1 S.nd (sim_dct (pps_cons pe_str (sim_promo (sim_call (hs.call _ _ T__law_folded) hs.room hs.gd hs.tk (args_cons (sim_var 0) (args_nil)))) (pps_cons pe_str (sim_promo (sim_lst (args_nil))) (pps_cons pe_str (sim_int) (pps_nil)))))) (blk_cons (st_setD hs.hu (sim_promo (sim_comp [("_law_cell", 2)] rfl S.nd (it_seq (sim_var 0)) (by first | (show blkC ["_law_script", "_law_m", "_law_cell"] (defScope (topS 36)) _ _ = true; decide +kernel) | rfl) (by decide +kernel) (fun _ _ _ _ _ => tg_name 2 S.nd) (fun _ _ _ _ _ => tsts_no) (fun _ _ _ _ _ => sim_ite (tst_cmp cr_ge (sim_var 2) (sim_pow (sim_int) (sim_int))) (sim_var 2) (sim_int)))) (sim_var 1) (sim_str)) (blk_cons (st_ret (sim_var 1)) (blk_nil)))

theorem sc__law_leaf : FnScope ["_law_m"] ["_law_m"] (defScope (topS 37)) := ⟨rfl, rfl, rfl, by decide +kernel, rfl, by decide +kernel, by decide +kernel⟩
theorem tie__law_leaf {w : World} {K : PySem.W.Frag} {mg : Str → Option Value} {base : Heap} {fa : Addr} {fd : FuncData} (ef : ExF K mg cls) (hg : glA K "_law_leaf" = some fa) (hm : mg "_law_leaf" = some (.ref fa)) (F : Fun K "_law_leaf" "_law_leaf" (topS 37) fa fd) : Tied prog w K mg base T G bs "_law_leaf" f__law_leaf := by
  refine ⟨fa, fd, ["_law_m"], ["_law_m"], topS 37, "_law_leaf", hm, hg, F, F.binds (fun _ _ _ _ _ _ us hl => match us, hl with | [_], _ => rfl), sc__law_leaf, rfl, rfl, fun k C cdv hcv A outer s H E hs ce => ?_⟩
  have S := sc__law_leaf
  exact blk_cons (st_ret (sim_ix (sim_lst (args_cons (sim_int) (args_cons (sim_int) (args_cons (sim_int) (args_cons (sim_int) (args_cons (sim_int) (args_cons (sim_int) (args_cons (sim_int) (args_cons (sim_call (hs.call _ _ T__law_draw) hs.room hs.gd hs.tk (args_cons (sim_var 0) (args_cons (sim_int) (args_nil)))) (args_nil)))))))))) (sim_call (hs.call _ _ T__law_draw) hs.room hs.gd hs.tk (args_cons (sim_var 0) (args_cons (sim_int) (args_nil)))))) (blk_nil)

theorem sc__law_worth : FnScope ["_law_m", "_law_deep", "_law_room", "_law_way", "_law_many", "_law_found", "_law_k"] ["_law_m", "_law_deep", "_law_room"] (defScope (topS 38)) := ⟨rfl, rfl, rfl, by decide +kernel, rfl, by decide +kernel, by decide +kernel⟩
theorem tie__law_worth {w : World} {K : PySem.W.Frag} {mg : Str → Option Value} {base : Heap} {fa : Addr} {fd : FuncData} (ef : ExF K mg cls) (hg : glA K "_law_worth" = some fa) (hm : mg "_law_worth" = some (.ref fa)) (F : Fun K "_law_worth" "_law_worth" (topS 38) fa fd) : Tied prog w K mg base T G bs "_law_worth" f__law_worth := by
  refine ⟨fa, fd, ["_law_m", "_law_deep", "_law_room"], ["_law_m", "_law_deep", "_law_room", "_law_way", "_law_many", "_law_found", "_law_k"], topS 38, "_law_worth", hm, hg, F, F.binds (fun _ _ _ _ _ _ us hl => match us, hl with | [_, _, _], _ => rfl), sc__law_worth, rfl, rfl, fun k C cdv hcv A outer s H E hs ce => ?_⟩
  have S := sc__law_worth
  exact blk_cons (st_par 3 4 rfl S.nd (args_cons (sim_call (hs.call _ _ T__law_draw) hs.room hs.gd hs.tk (args_cons (sim_var 0) (args_cons (sim_int) (args_nil)))) (args_cons (sim_call (hs.call _ _ T__law_draw) hs.room hs.gd hs.tk (args_cons (sim_var 0) (args_cons (sim_int) (args_nil)))) (args_nil))) (by rfl)) (blk_cons (st_setL (sim_sub (sim_ix (sim_var 2) (sim_int)) (sim_int)) (sim_var 2) (sim_int)) (blk_cons (st_if ((tst_or (tst_cmp cr_lt (sim_var 1) (sim_int)) (tst_or (tst_cmp cr_lt (sim_ix (sim_var 2) (sim_int)) (sim_int)) (tst_last (tst_cmp (cr_eq hs.hu64) (sim_var 3) (sim_int))))).pt) (blk_cons (st_ret (sim_ite (tst_cmp (cr_eq hs.hu64) (sim_var 4) (sim_int)) (sim_tup (args_nil)) (sim_call (hs.call _ _ T__law_leaf) hs.room hs.gd hs.tk (args_cons (sim_var 0) (args_nil))))) (blk_nil)) (blk_nil)) (blk_cons (st_own 5 S.nd (sim_lst (args_nil))) (blk_cons (st_for (passes_of rfl) rfl (it_rng1 hs.no (sim_var 4)) (tg_name 6 S.nd) (blk_cons (st_if (tst_cmp cr_gt (sim_ix (sim_var 2) (sim_int)) (sim_int)) (blk_cons (st_app 5 (sim_call (hs.call _ _ T__law_worth) hs.room hs.gd hs.tk (args_cons (sim_var 0) (args_cons (sim_sub (sim_var 1) (sim_int)) (args_cons (sim_var 2) (args_nil))))) (pv 5)) (blk_nil)) (blk_nil)) (blk_nil))) (blk_frz (blk_cons (st_ret (sim_bltT br_tuple (args_cons (sim_var 5) (args_nil)) hs.no (by decide +kernel))) (blk_nil)))))))

theorem sc__law_row : FnScope ["_law_m", "_law_most", "_law_some", "_law_k"] ["_law_m", "_law_most"] (defScope (topS 39)) := ⟨rfl, rfl, rfl, by decide +kernel, rfl, by decide +kernel, by decide +kernel⟩
theorem tie__law_row {w : World} {K : PySem.W.Frag} {mg : Str → Option Value} {base : Heap} {fa : Addr} {fd : FuncData} (ef : ExF K mg cls) (hg : glA K "_law_row" = some fa) (hm : mg "_law_row" = some (.ref fa)) (F : Fun K "_law_row" "_law_row" (topS 39) fa fd) : Tied prog w K mg base T G bs "_law_row" f__law_row := by
  refine ⟨fa, fd, ["_law_m", "_law_most"], ["_law_m", "_law_most", "_law_some", "_law_k"], topS 39, "_law_row", hm, hg, F, F.binds (fun _ _ _ _ _ _ us hl => match us, hl with | [_, _], _ => rfl), sc__law_row, rfl, rfl, fun k C cdv hcv A outer s H E hs ce => ?_⟩
  have S := sc__law_row
  exact blk_cons (st_asg 2 S.nd (sim_lst (args_cons (sim_call (hs.call _ _ T__law_draw) hs.room hs.gd hs.tk (args_cons (sim_var 0) (args_cons (sim_int) (args_nil)))) (args_cons (sim_call (hs.call _ _ T__law_draw) hs.room hs.gd hs.tk (args_cons (sim_var 0) (args_cons (sim_int) (args_nil)))) (args_cons (sim_int) (args_cons (sim_tup (args_cons (sim_int) (args_nil))) (args_cons (sim_tup (args_nil)) (args_cons (sim_tup (args_cons (sim_int) (args_cons (sim_int) (args_nil)))) (args_cons (sim_tup (args_cons (sim_int) (args_cons (sim_int) (args_nil)))) (args_cons (sim_call (hs.call _ _ T__law_leaf) hs.room hs.gd hs.tk (args_cons (sim_var 0) (args_nil))) (args_nil))))))))))) (blk_cons (st_ret (sim_bltT br_tuple (args_cons (sim_comp [("_law_k", 3)] rfl S.nd (it_rng1 hs.no (sim_call (hs.call _ _ T__law_draw) hs.room hs.gd hs.tk (args_cons (sim_var 0) (args_cons (sim_add (sim_var 1) (sim_int)) (args_nil))))) (by first | (show blkC ["_law_m", "_law_most", "_law_some", "_law_k"] (defScope (topS 39)) _ _ = true; decide +kernel) | rfl) (by decide +kernel) (fun _ _ _ _ _ => tg_name 3 S.nd) (fun _ _ _ _ _ => tsts_no) (fun _ _ _ _ _ => sim_ix (sim_var 2) (sim_call ((hs.blk _ _ _ _ _).call _ _ T__law_draw) (hs.blk _ _ _ _ _).room (hs.blk _ _ _ _ _).gd (hs.blk _ _ _ _ _).tk (args_cons (sim_var 0) (args_cons (sim_ix (sim_lst (args_cons (sim_int) (args_cons (sim_int) (args_cons (sim_int) (args_nil))))) (sim_call ((hs.blk _ _ _ _ _).call _ _ T__law_draw) (hs.blk _ _ _ _ _).room (hs.blk _ _ _ _ _).gd (hs.blk _ _ _ _ _).tk (args_cons (sim_var 0) (args_cons (sim_int) (args_nil))))) (args_nil)))))) (args_nil)) hs.no (by decide +kernel))) (blk_nil))

theorem sc__law_endless : FnScope ["_law_m", "_law_many", "_law_stem", "_law_around"] ["_law_m", "_law_many"] (defScope (topS 40)) := ⟨rfl, rfl, rfl, by decide +kernel, rfl, by decide +kernel, by decide +kernel⟩
theorem tie__law_endless {w : World} {K : PySem.W.Frag} {mg : Str → Option Value} {base : Heap} {fa : Addr} {fd : FuncData} (ef : ExF K mg cls) (hg : glA K "_law_endless" = some fa) (hm : mg "_law_endless" = some (.ref fa)) (F : Fun K "_law_endless" "_law_endless" (topS 40) fa fd) : Tied prog w K mg base T G bs "_law_endless" f__law_endless := by
  refine ⟨fa, fd, ["_law_m", "_law_many"], ["_law_m", "_law_many", "_law_stem", "_law_around"], topS 40, "_law_endless", hm, hg, F, F.binds (fun _ _ _ _ _ _ us hl => match us, hl with | [_, _], _ => rfl), sc__law_endless, rfl, rfl, fun k C cdv hcv A outer s H E hs ce => ?_⟩
  have S := sc__law_endless
  exact blk_cons (st_par 2 3 rfl S.nd (args_cons (sim_call (hs.call _ _ T__law_row) hs.room hs.gd hs.tk (args_cons (sim_var 0) (args_cons (sim_var 1) (args_nil)))) (args_cons (sim_add (sim_call (hs.call _ _ T__law_row) hs.room hs.gd hs.tk (args_cons (sim_var 0) (args_cons (sim_int) (args_nil)))) (sim_tup (args_cons (sim_call (hs.call _ _ T__law_draw) hs.room hs.gd hs.tk (args_cons (sim_var 0) (args_cons (sim_int) (args_nil)))) (args_nil)))) (args_nil))) (by rfl)) (blk_cons (st_asg 3 S.nd (sim_mul (sim_var 3) (sim_ix (sim_lst (args_cons (sim_int) (args_cons (sim_int) (args_cons (sim_int) (args_nil))))) (sim_call (hs.call _ _ T__law_draw) hs.room hs.gd hs.tk (args_cons (sim_var 0) (args_cons (sim_int) (args_nil))))))) (blk_cons (st_ret (sim_tup (args_cons (sim_str) (args_cons (sim_add (sim_var 2) (sim_mul (sim_sl (sim_var 3) part_no (part_some (sim_call (hs.call _ _ T__law_draw) hs.room hs.gd hs.tk (args_cons (sim_var 0) (args_cons (sim_add (sim_blt br_len (args_cons (sim_var 3) (args_nil)) hs.no (by decide +kernel)) (sim_int)) (args_nil)))))) (sim_bltT br_int (args_cons (sim_cmp (cr_eq hs.hu64) (sim_call (hs.call _ _ T__law_draw) hs.room hs.gd hs.tk (args_cons (sim_var 0) (args_cons (sim_int) (args_nil)))) (sim_int)) (args_nil)) hs.no (by decide +kernel)))) (args_cons (sim_var 3) (args_nil)))))) (blk_nil)))

theorem sc__law_class : FnScope ["_law_error", "_law_found"] ["_law_error"] (defScope (topS 41)) := ⟨rfl, rfl, rfl, by decide +kernel, rfl, by decide +kernel, by decide +kernel⟩
theorem tie__law_class {w : World} {K : PySem.W.Frag} {mg : Str → Option Value} {base : Heap} {fa : Addr} {fd : FuncData} (ef : ExF K mg cls) (hg : glA K "_law_class" = some fa) (hm : mg "_law_class" = some (.ref fa)) (F : Fun K "_law_class" "_law_class" (topS 41) fa fd) : Tied prog w K mg base T G bs "_law_class" f__law_class := by
  refine ⟨fa, fd, ["_law_error"], ["_law_error", "_law_found"], topS 41, "_law_class", hm, hg, F, F.binds (fun _ _ _ _ _ _ us hl => match us, hl with | [_], _ => rfl), sc__law_class, rfl, rfl, fun k C cdv hcv A outer s H E hs ce => ?_⟩
  have S := sc__law_class
  exact blk_cons (st_asg 1 S.nd (sim_add (sim_mul (sim_str) (sim_bltT br_int (args_cons (sim_isx1 ef hs.no (sim_var 0)) (args_nil)) hs.no (by decide +kernel))) (sim_mul (sim_str) (sim_bltT br_int (args_cons (sim_isx1 ef hs.no (sim_var 0)) (args_nil)) hs.no (by decide +kernel))))) (blk_cons (st_asg 1 S.nd (sim_add (sim_add (sim_var 1) (sim_mul (sim_str) (sim_bltT br_int (args_cons (sim_isx1 ef hs.no (sim_var 0)) (args_nil)) hs.no (by decide +kernel)))) (sim_mul (sim_str) (sim_bltT br_int (args_cons (sim_isx1 ef hs.no (sim_var 0)) (args_nil)) hs.no (by decide +kernel))))) (blk_cons (st_asg 1 S.nd (sim_add (sim_add (sim_var 1) (sim_mul (sim_str) (sim_bltT br_int (args_cons (sim_isx1 ef hs.no (sim_var 0)) (args_nil)) hs.no (by decide +kernel)))) (sim_mul (sim_str) (sim_bltT br_int (args_cons (sim_isx1 ef hs.no (sim_var 0)) (args_nil)) hs.no (by decide +kernel))))) (blk_cons (st_asg 1 S.nd (sim_add (sim_add (sim_var 1) (sim_mul (sim_str) (sim_bltT br_int (args_cons (sim_isx1 ef hs.no (sim_var 0)) (args_nil)) hs.no (by decide +kernel)))) (sim_mul (sim_str) (sim_bltT br_int (args_cons (sim_isx1 ef hs.no (sim_var 0)) (args_nil)) hs.no (by decide +kernel))))) (blk_cons (st_ret (sim_ite ((tst_and (tst_val (sim_isxV ef.xf (sim_var 0) hs.no hs.no)) (tst_last (tst_val (sim_isx1 ef hs.no (sim_var 0))))).pt) (sim_var 1) (sim_str))) (blk_nil)))))

theorem sc__law_field : FnScope ["_law_error"] ["_law_error"] (defScope (topS 42)) := ⟨rfl, rfl, rfl, by decide +kernel, rfl, by decide +kernel, by decide +kernel⟩
theorem tie__law_field {w : World} {K : PySem.W.Frag} {mg : Str → Option Value} {base : Heap} {fa : Addr} {fd : FuncData} (ef : ExF K mg cls) (hg : glA K "_law_field" = some fa) (hm : mg "_law_field" = some (.ref fa)) (F : Fun K "_law_field" "_law_field" (topS 42) fa fd) : Tied prog w K mg base T G bs "_law_field" f__law_field := by
  refine ⟨fa, fd, ["_law_error"], ["_law_error"], topS 42, "_law_field", hm, hg, F, F.binds (fun _ _ _ _ _ _ us hl => match us, hl with | [_], _ => rfl), sc__law_field, rfl, rfl, fun k C cdv hcv A outer s H E hs ce => ?_⟩
  have S := sc__law_field
  exact blk_cons (st_if (tst_val (sim_isx1 ef hs.no (sim_var 0))) (blk_cons (st_ret (sim_tup (args_cons (sim_call (hs.call _ _ T__law_class) hs.room hs.gd hs.tk (args_cons (sim_var 0) (args_nil))) (args_cons (sim_ite (tst_val (sim_isi .bool (sim_attr ef.xf (sim_var 0)) hs.no hs.no)) (sim_str) (sim_attr ef.xf (sim_var 0))) (args_nil))))) (blk_nil)) (blk_nil)) (blk_cons (st_if (tst_not (tst_val (sim_isx1 ef hs.no (sim_var 0)))) (blk_cons (st_ret (sim_tup (args_cons (sim_call (hs.call _ _ T__law_class) hs.room hs.gd hs.tk (args_cons (sim_var 0) (args_nil))) (args_nil)))) (blk_nil)) (blk_nil)) (blk_cons (st_ret (sim_ite ((tst_or (tst_val (sim_isi .bool (sim_attr ef.xf (sim_var 0)) hs.no hs.no)) (tst_last (tst_val (sim_isi .bool (sim_attr ef.xf (sim_var 0)) hs.no hs.no)))).pt) (sim_tup (args_cons (sim_str) (args_nil))) (sim_tup (args_cons (sim_str) (args_cons (sim_attr ef.xf (sim_var 0)) (args_cons (sim_attr ef.xf (sim_var 0)) (args_nil))))))) (blk_nil)))

theorem sc__law_things : FnScope ["_law_row_here", "_law_many", "_law_stem", "_law_around"] ["_law_row_here", "_law_many"] (defScope (topS 44)) := ⟨rfl, rfl, rfl, by decide +kernel, rfl, by decide +kernel, by decide +kernel⟩
theorem tie__law_things {w : World} {K : PySem.W.Frag} {mg : Str → Option Value} {base : Heap} {fa : Addr} {fd : FuncData} (ef : ExF K mg cls) (hg : glA K "_law_things" = some fa) (hm : mg "_law_things" = some (.ref fa)) (F : Fun K "_law_things" "_law_things" (topS 44) fa fd) : Tied prog w K mg base T G bs "_law_things" f__law_things := by
  refine ⟨fa, fd, ["_law_row_here", "_law_many"], ["_law_row_here", "_law_many", "_law_stem", "_law_around"], topS 44, "_law_things", hm, hg, F, F.binds (fun _ _ _ _ _ _ us hl => match us, hl with | [_, _], _ => rfl), sc__law_things, rfl, rfl, fun k C cdv hcv A outer s H E hs ce => ?_⟩
  have S := sc__law_things
  exact blk_cons (st_asgs rfl (sim_sl (sim_var 0) (part_some (sim_int)) part_no) (tgs_cons 2 S.nd (tgs_cons 3 S.nd (tgs_nil)))) (blk_cons (st_ret (sim_sl (sim_bltT br_list (args_cons (sim_add (sim_var 2) (sim_mul (sim_var 3) (sim_add (sim_int) (sim_fdiv (sim_var 1) (sim_blt br_len (args_cons (sim_var 3) (args_nil)) hs.no (by decide +kernel)))))) (args_nil)) hs.no (by decide +kernel)) part_no (part_some (sim_var 1)))) (blk_nil))

theorem sc__law_shortest : FnScope ["_law_row_here", "_law_stem", "_law_around", "_law_things_here", "_law_size", "_law_long", "_law_k"] ["_law_row_here"] (defScope (topS 45)) := ⟨rfl, rfl, rfl, by decide +kernel, rfl, by decide +kernel, by decide +kernel⟩
theorem tie__law_shortest {w : World} {K : PySem.W.Frag} {mg : Str → Option Value} {base : Heap} {fa : Addr} {fd : FuncData} (ef : ExF K mg cls) (hg : glA K "_law_shortest" = some fa) (hm : mg "_law_shortest" = some (.ref fa)) (F : Fun K "_law_shortest" "_law_shortest" (topS 45) fa fd) : Tied prog w K mg base T G bs "_law_shortest" f__law_shortest := by
  refine ⟨fa, fd, ["_law_row_here"], ["_law_row_here", "_law_stem", "_law_around", "_law_things_here", "_law_size", "_law_long", "_law_k"], topS 45, "_law_shortest", hm, hg, F, F.binds (fun _ _ _ _ _ _ us hl => match us, hl with | [_], _ => rfl), sc__law_shortest, rfl, rfl, fun k C cdv hcv A outer s H E hs ce => ?_⟩
  have S := sc__law_shortest
  exact blk_cons (st_asgs rfl (sim_sl (sim_var 0) (part_some (sim_int)) part_no) (tgs_cons 1 S.nd (tgs_cons 2 S.nd (tgs_nil)))) (blk_cons (st_asg 3 S.nd (sim_call (hs.call _ _ T__law_things) hs.room hs.gd hs.tk (args_cons (sim_var 0) (args_cons (sim_add (sim_mul (sim_int) (sim_add (sim_blt br_len (args_cons (sim_var 1) (args_nil)) hs.no (by decide +kernel)) (sim_mul (sim_int) (sim_blt br_len (args_cons (sim_var 2) (args_nil)) hs.no (by decide +kernel))))) (sim_int)) (args_nil))))) (blk_cons (st_for (passes_of rfl) rfl (it_rng2 hs.no (sim_int) (sim_add (sim_blt br_len (args_cons (sim_var 2) (args_nil)) hs.no (by decide +kernel)) (sim_int))) (tg_name 4 S.nd) (blk_cons (st_for (passes_of rfl) rfl (it_rng1 hs.no (sim_add (sim_blt br_len (args_cons (sim_var 1) (args_nil)) hs.no (by decide +kernel)) (sim_int))) (tg_name 5 S.nd) (blk_cons (st_if (tst_cmp (cr_eq hs.hu64) (sim_comp [("_law_k", 6)] rfl S.nd (it_rng2 hs.no (sim_var 5) (sim_sub (sim_blt br_len (args_cons (sim_var 3) (args_nil)) hs.no (by decide +kernel)) (sim_var 4))) (by first | (show blkC ["_law_row_here", "_law_stem", "_law_around", "_law_things_here", "_law_size", "_law_long", "_law_k"] (defScope (topS 45)) _ _ = true; decide +kernel) | rfl) (by decide +kernel) (fun _ _ _ _ _ => tg_name 6 S.nd) (fun _ _ _ _ _ => tsts_one (tst_cmp (cr_ne (hs.blk _ _ _ _ _).hu64) (sim_blt (br_repr (hs.blk _ _ _ _ _).hu (hs.blk _ _ _ _ _).gd) (args_cons (sim_ix (sim_var 3) (sim_var 6)) (args_nil)) (hs.blk _ _ _ _ _).no (by decide +kernel)) (sim_blt (br_repr (hs.blk _ _ _ _ _).hu (hs.blk _ _ _ _ _).gd) (args_cons (sim_ix (sim_var 3) (sim_add (sim_var 6) (sim_var 4))) (args_nil)) (hs.blk _ _ _ _ _).no (by decide +kernel)))) (fun _ _ _ _ _ => sim_var 6)) (sim_lst (args_nil))) (blk_cons (st_ret (sim_tup (args_cons (sim_str) (args_cons (sim_bltT br_tuple (args_cons (sim_sl (sim_var 3) part_no (part_some (sim_var 5))) (args_nil)) hs.no (by decide +kernel)) (args_cons (sim_bltT br_tuple (args_cons (sim_sl (sim_var 3) (part_some (sim_var 5)) (part_some (sim_add (sim_var 5) (sim_var 4)))) (args_nil)) hs.no (by decide +kernel)) (args_nil)))))) (blk_nil)) (blk_nil)) (blk_nil))) (blk_nil))) (blk_cons (st_ret (sim_var 0)) (blk_nil))))

theorem sc__law_longer : FnScope ["_law_m", "_law_row_here", "_law_stem", "_law_around", "_law_turn"] ["_law_m", "_law_row_here"] (defScope (topS 46)) := ⟨rfl, rfl, rfl, by decide +kernel, rfl, by decide +kernel, by decide +kernel⟩
theorem tie__law_longer {w : World} {K : PySem.W.Frag} {mg : Str → Option Value} {base : Heap} {fa : Addr} {fd : FuncData} (ef : ExF K mg cls) (hg : glA K "_law_longer" = some fa) (hm : mg "_law_longer" = some (.ref fa)) (F : Fun K "_law_longer" "_law_longer" (topS 46) fa fd) : Tied prog w K mg base T G bs "_law_longer" f__law_longer := by
  refine ⟨fa, fd, ["_law_m", "_law_row_here"], ["_law_m", "_law_row_here", "_law_stem", "_law_around", "_law_turn"], topS 46, "_law_longer", hm, hg, F, F.binds (fun _ _ _ _ _ _ us hl => match us, hl with | [_, _], _ => rfl), sc__law_longer, rfl, rfl, fun k C cdv hcv A outer s H E hs ce => ?_⟩
  have S := sc__law_longer
  exact blk_cons (st_asgs rfl (sim_sl (sim_var 1) (part_some (sim_int)) part_no) (tgs_cons 2 S.nd (tgs_cons 3 S.nd (tgs_nil)))) (blk_cons (st_for (passes_of rfl) rfl (it_rng1 hs.no (sim_call (hs.call _ _ T__law_draw) hs.room hs.gd hs.tk (args_cons (sim_var 0) (args_cons (sim_int) (args_nil))))) (tg_name 4 S.nd) (blk_cons (st_par 2 3 rfl S.nd (args_cons (sim_add (sim_var 2) (sim_sl (sim_var 3) part_no (part_some (sim_int)))) (args_cons (sim_add (sim_sl (sim_var 3) (part_some (sim_int)) part_no) (sim_sl (sim_var 3) part_no (part_some (sim_int)))) (args_nil))) (by rfl)) (blk_nil))) (blk_cons (st_ret (sim_tup (args_cons (sim_str) (args_cons (sim_var 2) (args_cons (sim_mul (sim_var 3) (sim_add (sim_int) (sim_call (hs.call _ _ T__law_draw) hs.room hs.gd hs.tk (args_cons (sim_var 0) (args_cons (sim_fdiv (sim_int) (sim_blt br_len (args_cons (sim_var 3) (args_nil)) hs.no (by decide +kernel))) (args_nil)))))) (args_nil)))))) (blk_nil)))

theorem sc__law_twin : FnScope ["_law_thing", "_law_one"] ["_law_thing"] (defScope (topS 47)) := ⟨rfl, rfl, rfl, by decide +kernel, rfl, by decide +kernel, by decide +kernel⟩
theorem tie__law_twin {w : World} {K : PySem.W.Frag} {mg : Str → Option Value} {base : Heap} {fa : Addr} {fd : FuncData} (ef : ExF K mg cls) (hg : glA K "_law_twin" = some fa) (hm : mg "_law_twin" = some (.ref fa)) (F : Fun K "_law_twin" "_law_twin" (topS 47) fa fd) : Tied prog w K mg base T G bs "_law_twin" f__law_twin := by
  refine ⟨fa, fd, ["_law_thing"], ["_law_thing", "_law_one"], topS 47, "_law_twin", hm, hg, F, F.binds (fun _ _ _ _ _ _ us hl => match us, hl with | [_], _ => rfl), sc__law_twin, rfl, rfl, fun k C cdv hcv A outer s H E hs ce => ?_⟩
  have S := sc__law_twin
  exact blk_cons (st_if (tst_val (sim_isi .tuple (sim_var 0) hs.no hs.no)) (blk_cons (st_ret (sim_bltT br_tuple (args_cons (sim_comp [("_law_one", 1)] rfl S.nd (it_seq (sim_var 0)) (by first | (show blkC ["_law_thing", "_law_one"] (defScope (topS 47)) _ _ = true; decide +kernel) | rfl) (by decide +kernel) (fun _ _ _ _ _ => tg_name 1 S.nd) (fun _ _ _ _ _ => tsts_no) (fun _ _ _ _ _ => sim_call ((hs.blk _ _ _ _ _).call _ _ T__law_twin) (hs.blk _ _ _ _ _).room (hs.blk _ _ _ _ _).gd (hs.blk _ _ _ _ _).tk (args_cons (sim_var 1) (args_nil)))) (args_nil)) hs.no (by decide +kernel))) (blk_nil)) (blk_nil)) (blk_cons (st_ret (sim_ite ((tst_and (tst_val (sim_isi .int (sim_var 0) hs.no hs.no)) (tst_last (tst_chain cr_le cr_le (sim_int) (sim_var 0) (sim_int)))).pt) (sim_cmp (cr_eq hs.hu64) (sim_var 0) (sim_int)) (sim_var 0))) (blk_nil))

theorem sc_law : FnScope ["_law_script", "_law_m", "_law_turn", "_law_row_here", "_law_due", "_law_again", "_law_worth_here", "_law_one", "_law_odd", "_law_far", "_law_thing"] ["_law_script"] (defScope (topS 48)) := ⟨rfl, rfl, rfl, by decide +kernel, rfl, by decide +kernel, by decide +kernel⟩
theorem tie_law {w : World} {K : PySem.W.Frag} {mg : Str → Option Value} {base : Heap} {fa : Addr} {fd : FuncData} (ef : ExF K mg cls) (tf : ∀ x fl, (x, fl) ∈ tolds → ToldF K mg x fl) {c P : Addr} (TB : LamX.TabB base mg c P) (hfc : fd.code = .ref c) (hmT : (P, (("law" : Str) ++ ".<locals>.") ++ "<lambda>") ∈ Tb.T K) (hu : ∀ p ∈ Tb.T K, p.1 = P → p.2 = (("law" : Str) ++ ".<locals>.") ++ "<lambda>") (hg : glA K "law" = some fa) (hm : mg "law" = some (.ref fa)) (F : Fun K "law" "law" (topS 48) fa fd) : Tied prog w K mg base T G bs "law" f_law := by
  refine ⟨fa, fd, ["_law_script"], ["_law_script", "_law_m", "_law_turn", "_law_row_here", "_law_due", "_law_again", "_law_worth_here", "_law_one", "_law_odd", "_law_far", "_law_thing"], topS 48, "law", hm, hg, F, F.binds (fun _ _ _ _ _ _ us hl => match us, hl with | [_], _ => rfl), sc_law, rfl, rfl, fun k C cdv hcv A outer s H E hs ce => ?_⟩
  have S := sc_law
  have hcode : cdv = .ref c := hcv.symm.trans hfc
  exact blk_cons (st_asg 1 S.nd (sim_call (hs.call _ _ T__law_begun) hs.room hs.gd hs.tk (args_cons (sim_var 0) (args_nil)))) (blk_cons (st_for (passes_of rfl) rfl (it_rng1 hs.no (sim_int)) (tg_name 2 S.nd) (blk_cons (st_asg 3 S.nd (sim_call (hs.call _ _ T__law_longer) hs.room hs.gd hs.tk (args_cons (sim_var 1) (args_cons (sim_call (hs.call _ _ T__law_endless) hs.room hs.gd hs.tk (args_cons (sim_var 1) (args_cons (sim_int) (args_nil)))) (args_nil))))) (blk_cons (st_asg 4 S.nd (sim_call (hs.call _ _ T__law_shortest) hs.room hs.gd hs.tk (args_cons (sim_var 3) (args_nil)))) (blk_cons (st_for (passes_of rfl) rfl (it_rng1 hs.no (sim_int)) (tg_name 5 S.nd) (blk_cons (st_if ((tst_or (tst_cmp (cr_ne hs.hu64) (sim_blt (br_repr hs.hu hs.gd) (args_cons (sim_call (hs.call _ _ T_lean) hs.room hs.gd hs.tk (args_cons (sim_var 3) (args_nil))) (args_nil)) hs.no (by decide +kernel)) (sim_blt (br_repr hs.hu hs.gd) (args_cons (sim_var 4) (args_nil)) hs.no (by decide +kernel))) (tst_or (tst_cmp (cr_ne hs.hu64) (sim_blt (br_repr hs.hu hs.gd) (args_cons (sim_call (hs.call _ _ T_lean) hs.room hs.gd hs.tk (args_cons (sim_var 4) (args_nil))) (args_nil)) hs.no (by decide +kernel)) (sim_blt (br_repr hs.hu hs.gd) (args_cons (sim_var 4) (args_nil)) hs.no (by decide +kernel))) (tst_last (tst_not (tst_val (sim_call (hs.call _ _ T_is_endless) hs.room hs.gd hs.tk (args_cons (sim_var 4) (args_nil)))))))).pt) (blk_cons (st_ret (sim_bl)) (blk_nil)) (blk_nil)) (blk_nil))) (blk_cons (st_if (tst_cmp (cr_ne hs.hu64) (sim_blt (br_repr hs.hu hs.gd) (args_cons (sim_call (hs.call _ _ T_lean) hs.room hs.gd hs.tk (args_cons (sim_call (hs.call _ _ T__law_longer) hs.room hs.gd hs.tk (args_cons (sim_var 1) (args_cons (sim_var 4) (args_nil)))) (args_nil))) (args_nil)) hs.no (by decide +kernel)) (sim_blt (br_repr hs.hu hs.gd) (args_cons (sim_var 4) (args_nil)) hs.no (by decide +kernel))) (blk_cons (st_ret (sim_bl)) (blk_nil)) (blk_nil)) (blk_cons (st_asg 6 S.nd (sim_call (hs.call _ _ T__law_worth) hs.room hs.gd hs.tk (args_cons (sim_var 1) (args_cons (sim_int) (args_cons (sim_promo (sim_lst (args_cons (sim_int) (args_nil)))) (args_nil)))))) (blk_cons (st_if (tst_cmp (cr_ne hs.hu64) (sim_blt (br_repr hs.hu hs.gd) (args_cons (sim_call (hs.call _ _ T_lean) hs.room hs.gd hs.tk (args_cons (sim_var 6) (args_nil))) (args_nil)) hs.no (by decide +kernel)) (sim_blt (br_repr hs.hu hs.gd) (args_cons (sim_var 6) (args_nil)) hs.no (by decide +kernel))) (blk_cons (st_ret (sim_bl)) (blk_nil)) (blk_nil)) (blk_cons (st_for (passes_of rfl) rfl (it_seq (sim_tup (args_cons (sim_var 4) (args_cons (sim_var 6) (args_cons (sim_var 3) (args_nil)))))) (tg_name 7 S.nd) (blk_cons (st_asg 8 S.nd (sim_call (hs.call _ _ T__law_twin) hs.room hs.gd hs.tk (args_cons (sim_var 7) (args_nil)))) (blk_cons (st_if ((tst_and (tst_cmp (cr_ne hs.hu64) (sim_blt (br_repr hs.hu hs.gd) (args_cons (sim_var 8) (args_nil)) hs.no (by decide +kernel)) (sim_blt (br_repr hs.hu hs.gd) (args_cons (sim_var 7) (args_nil)) hs.no (by decide +kernel))) (tst_last (tst_cmp (cr_ne hs.hu64) (sim_told hs T__law_field (tf "_law_told" _ (by decide +kernel)) ef.xf TB hcode hmT hu (LamX.lamS_by (by first | decide +kernel | rfl)) (fun _ _ _ _ _ _ _ hl => (sim_call (hl.call _ _ T_lean) hl.room hl.gd hl.tk (args_cons (sim_var 8) (args_nil))))) (sim_tup (args_cons (sim_str) (args_nil)))))).pt) (blk_cons (st_ret (sim_bl)) (blk_nil)) (blk_nil)) (blk_nil)))) (blk_nil))))))))) (blk_cons (st_asg 9 S.nd (sim_tup (args_cons (sim_str) (args_cons (sim_add (sim_mul (sim_tup (args_cons (sim_int) (args_nil))) (sim_int)) (sim_tup (args_cons (sim_int) (args_nil)))) (args_cons (sim_mul (sim_tup (args_cons (sim_int) (args_cons (sim_int) (args_nil)))) (sim_int)) (args_nil)))))) (blk_cons (st_if (tst_cmp (cr_ne hs.hu64) (sim_blt (br_repr hs.hu hs.gd) (args_cons (sim_call (hs.call _ _ T_lean) hs.room hs.gd hs.tk (args_cons (sim_var 9) (args_nil))) (args_nil)) hs.no (by decide +kernel)) (sim_blt (br_repr hs.hu hs.gd) (args_cons (sim_tup (args_cons (sim_str) (args_cons (sim_mul (sim_tup (args_cons (sim_int) (args_nil))) (sim_int)) (args_cons (sim_tup (args_cons (sim_int) (args_cons (sim_int) (args_nil)))) (args_nil))))) (args_nil)) hs.no (by decide +kernel))) (blk_cons (st_ret (sim_bl)) (blk_nil)) (blk_nil)) (blk_cons (st_asg 8 S.nd (sim_lst (args_cons (sim_non) (args_cons (sim_str) (args_cons (sim_bl) (args_cons (sim_lst (args_cons (sim_str) (args_cons (sim_tup (args_nil)) (args_cons (sim_tup (args_cons (sim_int) (args_nil))) (args_nil))))) (args_cons (sim_tup (args_cons (sim_str) (args_cons (sim_tup (args_nil)) (args_cons (sim_tup (args_nil)) (args_nil))))) (args_cons (sim_tup (args_cons (sim_str) (args_cons (sim_lst (args_nil)) (args_cons (sim_tup (args_cons (sim_int) (args_nil))) (args_nil))))) (args_cons (sim_int) (args_cons (sim_dct0) (args_nil))))))))))) (blk_cons (st_ret (sim_cmp (cr_eq hs.hu64) (sim_comp [("_law_thing", 10)] rfl S.nd (it_seq (sim_var 8)) (by first | (show blkC ["_law_script", "_law_m", "_law_turn", "_law_row_here", "_law_due", "_law_again", "_law_worth_here", "_law_one", "_law_odd", "_law_far", "_law_thing"] (defScope (topS 48)) _ _ = true; decide +kernel) | rfl) (by decide +kernel) (fun _ _ _ _ _ => tg_name 10 S.nd) (fun _ _ _ _ _ => tsts_no) (fun _ _ _ _ _ => sim_told (hs.blk _ _ _ _ _) T__law_field (tf "_law_told" _ (by decide +kernel)) ef.xf TB hcode hmT hu (LamX.lamS_by (by first | decide +kernel | rfl)) (fun _ _ _ _ _ _ _ hl => (sim_call (hl.call _ _ T_lean) hl.room hl.gd hl.tk (args_cons (sim_var 10) (args_nil)))))) (sim_mul (sim_lst (args_cons (sim_tup (args_cons (sim_str) (args_nil))) (args_nil))) (sim_int)))) (blk_nil))))))

theorem all_mk {w : World} {K : PySem.W.Frag} {h : Heap} {mg : Str → Option Value} (X : K.In h) (Gn : h.Ns mainGlobals mg)
  {f0 : Addr} {od0 an0 : Option Addr} {sl0 : Array (Option Value)} {oc0 kV0 dc0 pm0 cd0 ct0 : Value}
  {f1 : Addr} {od1 an1 : Option Addr} {sl1 : Array (Option Value)} {oc1 kV1 dc1 pm1 cd1 ct1 : Value}
  {f2 : Addr} {od2 an2 : Option Addr} {sl2 : Array (Option Value)} {oc2 kV2 dc2 pm2 cd2 ct2 : Value}
  {f3 : Addr} {od3 an3 : Option Addr} {sl3 : Array (Option Value)} {oc3 kV3 dc3 pm3 cd3 ct3 : Value}
  {f4 : Addr} {od4 an4 : Option Addr} {sl4 : Array (Option Value)} {oc4 kV4 dc4 pm4 cd4 ct4 : Value}
  {f5 : Addr} {od5 an5 : Option Addr} {sl5 : Array (Option Value)} {oc5 kV5 dc5 pm5 cd5 ct5 : Value}
  {f6 : Addr} {od6 an6 : Option Addr} {sl6 : Array (Option Value)} {oc6 kV6 dc6 pm6 cd6 ct6 : Value}
  {f7 : Addr} {od7 an7 : Option Addr} {sl7 : Array (Option Value)} {oc7 kV7 dc7 pm7 cd7 ct7 : Value}
  {f8 : Addr} {od8 an8 : Option Addr} {sl8 : Array (Option Value)} {oc8 kV8 dc8 pm8 cd8 ct8 : Value}
  {f9 : Addr} {od9 an9 : Option Addr} {sl9 : Array (Option Value)} {oc9 kV9 dc9 pm9 cd9 ct9 : Value}
  {f10 : Addr} {od10 an10 : Option Addr} {sl10 : Array (Option Value)} {oc10 kV10 dc10 pm10 cd10 ct10 : Value}
  {f11 : Addr} {od11 an11 : Option Addr} {sl11 : Array (Option Value)} {oc11 kV11 dc11 pm11 cd11 ct11 : Value}
  {f12 : Addr} {od12 an12 : Option Addr} {sl12 : Array (Option Value)} {oc12 kV12 dc12 pm12 cd12 ct12 : Value}
  {f13 : Addr} {od13 an13 : Option Addr} {sl13 : Array (Option Value)} {oc13 kV13 dc13 pm13 cd13 ct13 : Value}
  {f14 : Addr} {od14 an14 : Option Addr} {sl14 : Array (Option Value)} {oc14 kV14 dc14 pm14 cd14 ct14 : Value}
  {f15 : Addr} {od15 an15 : Option Addr} {sl15 : Array (Option Value)} {oc15 kV15 dc15 pm15 cd15 ct15 : Value}
  {f16 : Addr} {od16 an16 : Option Addr} {sl16 : Array (Option Value)} {oc16 kV16 dc16 pm16 cd16 ct16 : Value}
  {f17 : Addr} {od17 an17 : Option Addr} {sl17 : Array (Option Value)} {oc17 kV17 dc17 pm17 cd17 ct17 : Value}
  {f18 : Addr} {od18 an18 : Option Addr} {sl18 : Array (Option Value)} {oc18 kV18 dc18 pm18 cd18 ct18 : Value}
  {f19 : Addr} {od19 an19 : Option Addr} {sl19 : Array (Option Value)} {oc19 kV19 dc19 pm19 cd19 ct19 : Value}
  {f20 : Addr} {od20 an20 : Option Addr} {sl20 : Array (Option Value)} {oc20 kV20 dc20 pm20 cd20 ct20 : Value}
  {f21 : Addr} {od21 an21 : Option Addr} {sl21 : Array (Option Value)} {oc21 kV21 dc21 pm21 cd21 ct21 : Value}
  {f22 : Addr} {od22 an22 : Option Addr} {sl22 : Array (Option Value)} {oc22 kV22 dc22 pm22 cd22 ct22 : Value}
  {f23 : Addr} {od23 an23 : Option Addr} {sl23 : Array (Option Value)} {oc23 kV23 dc23 pm23 cd23 ct23 : Value}
  {f24 : Addr} {od24 an24 : Option Addr} {sl24 : Array (Option Value)} {oc24 kV24 dc24 pm24 cd24 ct24 : Value}
  {f25 : Addr} {od25 an25 : Option Addr} {sl25 : Array (Option Value)} {oc25 kV25 dc25 pm25 cd25 ct25 : Value}
  {f26 : Addr} {od26 an26 : Option Addr} {sl26 : Array (Option Value)} {oc26 kV26 dc26 pm26 cd26 ct26 : Value}
  {f27 : Addr} {od27 an27 : Option Addr} {sl27 : Array (Option Value)} {oc27 kV27 dc27 pm27 cd27 ct27 : Value}
  {f28 : Addr} {od28 an28 : Option Addr} {sl28 : Array (Option Value)} {oc28 kV28 dc28 pm28 cd28 ct28 : Value}
  {gv0 : Value}
  {gv1 : Value}
  {gv2 : Value}
  {gv3 : Value}
  {gv4 : Value}
  {gv5 : Value}
  {gv6 : Value}
  (a0 : PySem.W.nsIn K mainGlobals "is_whole" = some (some (.ref f0))) (l0 : K.lookup f0 = some ⟨oc0, od0, .func (PySem.W.fnOf "is_whole" "is_whole" (defArgs (topS 12)) (defBody (topS 12)) (defScope (topS 12)) .none kV0 dc0 pm0 an0 cd0 ct0), sl0⟩) (c0 : PySem.W.codeIn K cd0 "is_whole" = true) (k0 : PySem.W.keepIn K (.ref f0) = true)
  (a1 : PySem.W.nsIn K mainGlobals "is_among" = some (some (.ref f1))) (l1 : K.lookup f1 = some ⟨oc1, od1, .func (PySem.W.fnOf "is_among" "is_among" (defArgs (topS 13)) (defBody (topS 13)) (defScope (topS 13)) .none kV1 dc1 pm1 an1 cd1 ct1), sl1⟩) (c1 : PySem.W.codeIn K cd1 "is_among" = true) (k1 : PySem.W.keepIn K (.ref f1) = true)
  (a2 : PySem.W.nsIn K mainGlobals "is_leaf" = some (some (.ref f2))) (l2 : K.lookup f2 = some ⟨oc2, od2, .func (PySem.W.fnOf "is_leaf" "is_leaf" (defArgs (topS 21)) (defBody (topS 21)) (defScope (topS 21)) .none kV2 dc2 pm2 an2 cd2 ct2), sl2⟩) (c2 : PySem.W.codeIn K cd2 "is_leaf" = true) (k2 : PySem.W.keepIn K (.ref f2) = true)
  (a3 : PySem.W.nsIn K mainGlobals "size_within" = some (some (.ref f3))) (l3 : K.lookup f3 = some ⟨oc3, od3, .func (PySem.W.fnOf "size_within" "size_within" (defArgs (topS 22)) (defBody (topS 22)) (defScope (topS 22)) .none kV3 dc3 pm3 an3 cd3 ct3), sl3⟩) (c3 : PySem.W.codeIn K cd3 "size_within" = true) (k3 : PySem.W.keepIn K (.ref f3) = true)
  (a4 : PySem.W.nsIn K mainGlobals "is_worth" = some (some (.ref f4))) (l4 : K.lookup f4 = some ⟨oc4, od4, .func (PySem.W.fnOf "is_worth" "is_worth" (defArgs (topS 23)) (defBody (topS 23)) (defScope (topS 23)) .none kV4 dc4 pm4 an4 cd4 ct4), sl4⟩) (c4 : PySem.W.codeIn K cd4 "is_worth" = true) (k4 : PySem.W.keepIn K (.ref f4) = true)
  (a5 : PySem.W.nsIn K mainGlobals "are_worths" = some (some (.ref f5))) (l5 : K.lookup f5 = some ⟨oc5, od5, .func (PySem.W.fnOf "are_worths" "are_worths" (defArgs (topS 24)) (defBody (topS 24)) (defScope (topS 24)) .none kV5 dc5 pm5 an5 cd5 ct5), sl5⟩) (c5 : PySem.W.codeIn K cd5 "are_worths" = true) (k5 : PySem.W.keepIn K (.ref f5) = true)
  (a6 : PySem.W.nsIn K mainGlobals "is_endless" = some (some (.ref f6))) (l6 : K.lookup f6 = some ⟨oc6, od6, .func (PySem.W.fnOf "is_endless" "is_endless" (defArgs (topS 25)) (defBody (topS 25)) (defScope (topS 25)) .none kV6 dc6 pm6 an6 cd6 ct6), sl6⟩) (c6 : PySem.W.codeIn K cd6 "is_endless" = true) (k6 : PySem.W.keepIn K (.ref f6) = true)
  (a7 : PySem.W.nsIn K mainGlobals "is_thing" = some (some (.ref f7))) (l7 : K.lookup f7 = some ⟨oc7, od7, .func (PySem.W.fnOf "is_thing" "is_thing" (defArgs (topS 26)) (defBody (topS 26)) (defScope (topS 26)) .none kV7 dc7 pm7 an7 cd7 ct7), sl7⟩) (c7 : PySem.W.codeIn K cd7 "is_thing" = true) (k7 : PySem.W.keepIn K (.ref f7) = true)
  (a8 : PySem.W.nsIn K mainGlobals "need_thing" = some (some (.ref f8))) (l8 : K.lookup f8 = some ⟨oc8, od8, .func (PySem.W.fnOf "need_thing" "need_thing" (defArgs (topS 27)) (defBody (topS 27)) (defScope (topS 27)) .none kV8 dc8 pm8 an8 cd8 ct8), sl8⟩) (c8 : PySem.W.codeIn K cd8 "need_thing" = true) (k8 : PySem.W.keepIn K (.ref f8) = true)
  (a9 : PySem.W.nsIn K mainGlobals "goes_on" = some (some (.ref f9))) (l9 : K.lookup f9 = some ⟨oc9, od9, .func (PySem.W.fnOf "goes_on" "goes_on" (defArgs (topS 28)) (defBody (topS 28)) (defScope (topS 28)) .none kV9 dc9 pm9 an9 cd9 ct9), sl9⟩) (c9 : PySem.W.codeIn K cd9 "goes_on" = true) (k9 : PySem.W.keepIn K (.ref f9) = true)
  (a10 : PySem.W.nsIn K mainGlobals "least_round" = some (some (.ref f10))) (l10 : K.lookup f10 = some ⟨oc10, od10, .func (PySem.W.fnOf "least_round" "least_round" (defArgs (topS 29)) (defBody (topS 29)) (defScope (topS 29)) .none kV10 dc10 pm10 an10 cd10 ct10), sl10⟩) (c10 : PySem.W.codeIn K cd10 "least_round" = true) (k10 : PySem.W.keepIn K (.ref f10) = true)
  (a11 : PySem.W.nsIn K mainGlobals "leaned" = some (some (.ref f11))) (l11 : K.lookup f11 = some ⟨oc11, od11, .func (PySem.W.fnOf "leaned" "leaned" (defArgs (topS 30)) (defBody (topS 30)) (defScope (topS 30)) .none kV11 dc11 pm11 an11 cd11 ct11), sl11⟩) (c11 : PySem.W.codeIn K cd11 "leaned" = true) (k11 : PySem.W.keepIn K (.ref f11) = true)
  (a12 : PySem.W.nsIn K mainGlobals "lean" = some (some (.ref f12))) (l12 : K.lookup f12 = some ⟨oc12, od12, .func (PySem.W.fnOf "lean" "lean" (defArgs (topS 31)) (defBody (topS 31)) (defScope (topS 31)) .none kV12 dc12 pm12 an12 cd12 ct12), sl12⟩) (c12 : PySem.W.codeIn K cd12 "lean" = true) (k12 : PySem.W.keepIn K (.ref f12) = true)
  (a13 : PySem.W.nsIn K mainGlobals "_law_mixed" = some (some (.ref f13))) (l13 : K.lookup f13 = some ⟨oc13, od13, .func (PySem.W.fnOf "_law_mixed" "_law_mixed" (defArgs (topS 33)) (defBody (topS 33)) (defScope (topS 33)) .none kV13 dc13 pm13 an13 cd13 ct13), sl13⟩) (c13 : PySem.W.codeIn K cd13 "_law_mixed" = true) (k13 : PySem.W.keepIn K (.ref f13) = true)
  (a14 : PySem.W.nsIn K mainGlobals "_law_folded" = some (some (.ref f14))) (l14 : K.lookup f14 = some ⟨oc14, od14, .func (PySem.W.fnOf "_law_folded" "_law_folded" (defArgs (topS 34)) (defBody (topS 34)) (defScope (topS 34)) .none kV14 dc14 pm14 an14 cd14 ct14), sl14⟩) (c14 : PySem.W.codeIn K cd14 "_law_folded" = true) (k14 : PySem.W.keepIn K (.ref f14) = true)
  (a15 : PySem.W.nsIn K mainGlobals "_law_draw" = some (some (.ref f15))) (l15 : K.lookup f15 = some ⟨oc15, od15, .func (PySem.W.fnOf "_law_draw" "_law_draw" (defArgs (topS 35)) (defBody (topS 35)) (defScope (topS 35)) .none kV15 dc15 pm15 an15 cd15 ct15), sl15⟩) (c15 : PySem.W.codeIn K cd15 "_law_draw" = true) (k15 : PySem.W.keepIn K (.ref f15) = true)
  (a16 : PySem.W.nsIn K mainGlobals "_law_begun" = some (some (.ref f16))) (l16 : K.lookup f16 = some ⟨oc16, od16, .func (PySem.W.fnOf "_law_begun" "_law_begun" (defArgs (topS 36)) (defBody (topS 36)) (defScope (topS 36)) .none kV16 dc16 pm16 an16 cd16 ct16), sl16⟩) (c16 : PySem.W.codeIn K cd16 "_law_begun" = true) (k16 : PySem.W.keepIn K (.ref f16) = true)
  (a17 : PySem.W.nsIn K mainGlobals "_law_leaf" = some (some (.ref f17))) (l17 : K.lookup f17 = some ⟨oc17, od17, .func (PySem.W.fnOf "_law_leaf" "_law_leaf" (defArgs (topS 37)) (defBody (topS 37)) (defScope (topS 37)) .none kV17 dc17 pm17 an17 cd17 ct17), sl17⟩) (c17 : PySem.W.codeIn K cd17 "_law_leaf" = true) (k17 : PySem.W.keepIn K (.ref f17) = true)
  (a18 : PySem.W.nsIn K mainGlobals "_law_worth" = some (some (.ref f18))) (l18 : K.lookup f18 = some ⟨oc18, od18, .func (PySem.W.fnOf "_law_worth" "_law_worth" (defArgs (topS 38)) (defBody (topS 38)) (defScope (topS 38)) .none kV18 dc18 pm18 an18 cd18 ct18), sl18⟩) (c18 : PySem.W.codeIn K cd18 "_law_worth" = true) (k18 : PySem.W.keepIn K (.ref f18) = true)
  (a19 : PySem.W.nsIn K mainGlobals "_law_row" = some (some (.ref f19))) (l19 : K.lookup f19 = some ⟨oc19, od19, .func (PySem.W.fnOf "_law_row" "_law_row" (defArgs (topS 39)) (defBody (topS 39)) (defScope (topS 39)) .none kV19 dc19 pm19 an19 cd19 ct19), sl19⟩) (c19 : PySem.W.codeIn K cd19 "_law_row" = true) (k19 : PySem.W.keepIn K (.ref f19) = true)
  (a20 : PySem.W.nsIn K mainGlobals "_law_endless" = some (some (.ref f20))) (l20 : K.lookup f20 = some ⟨oc20, od20, .func (PySem.W.fnOf "_law_endless" "_law_endless" (defArgs (topS 40)) (defBody (topS 40)) (defScope (topS 40)) .none kV20 dc20 pm20 an20 cd20 ct20), sl20⟩) (c20 : PySem.W.codeIn K cd20 "_law_endless" = true) (k20 : PySem.W.keepIn K (.ref f20) = true)
  (a21 : PySem.W.nsIn K mainGlobals "_law_class" = some (some (.ref f21))) (l21 : K.lookup f21 = some ⟨oc21, od21, .func (PySem.W.fnOf "_law_class" "_law_class" (defArgs (topS 41)) (defBody (topS 41)) (defScope (topS 41)) .none kV21 dc21 pm21 an21 cd21 ct21), sl21⟩) (c21 : PySem.W.codeIn K cd21 "_law_class" = true) (k21 : PySem.W.keepIn K (.ref f21) = true)
  (a22 : PySem.W.nsIn K mainGlobals "_law_field" = some (some (.ref f22))) (l22 : K.lookup f22 = some ⟨oc22, od22, .func (PySem.W.fnOf "_law_field" "_law_field" (defArgs (topS 42)) (defBody (topS 42)) (defScope (topS 42)) .none kV22 dc22 pm22 an22 cd22 ct22), sl22⟩) (c22 : PySem.W.codeIn K cd22 "_law_field" = true) (k22 : PySem.W.keepIn K (.ref f22) = true)
  (a23 : PySem.W.nsIn K mainGlobals "_law_things" = some (some (.ref f23))) (l23 : K.lookup f23 = some ⟨oc23, od23, .func (PySem.W.fnOf "_law_things" "_law_things" (defArgs (topS 44)) (defBody (topS 44)) (defScope (topS 44)) .none kV23 dc23 pm23 an23 cd23 ct23), sl23⟩) (c23 : PySem.W.codeIn K cd23 "_law_things" = true) (k23 : PySem.W.keepIn K (.ref f23) = true)
  (a24 : PySem.W.nsIn K mainGlobals "_law_shortest" = some (some (.ref f24))) (l24 : K.lookup f24 = some ⟨oc24, od24, .func (PySem.W.fnOf "_law_shortest" "_law_shortest" (defArgs (topS 45)) (defBody (topS 45)) (defScope (topS 45)) .none kV24 dc24 pm24 an24 cd24 ct24), sl24⟩) (c24 : PySem.W.codeIn K cd24 "_law_shortest" = true) (k24 : PySem.W.keepIn K (.ref f24) = true)
  (a25 : PySem.W.nsIn K mainGlobals "_law_longer" = some (some (.ref f25))) (l25 : K.lookup f25 = some ⟨oc25, od25, .func (PySem.W.fnOf "_law_longer" "_law_longer" (defArgs (topS 46)) (defBody (topS 46)) (defScope (topS 46)) .none kV25 dc25 pm25 an25 cd25 ct25), sl25⟩) (c25 : PySem.W.codeIn K cd25 "_law_longer" = true) (k25 : PySem.W.keepIn K (.ref f25) = true)
  (a26 : PySem.W.nsIn K mainGlobals "_law_twin" = some (some (.ref f26))) (l26 : K.lookup f26 = some ⟨oc26, od26, .func (PySem.W.fnOf "_law_twin" "_law_twin" (defArgs (topS 47)) (defBody (topS 47)) (defScope (topS 47)) .none kV26 dc26 pm26 an26 cd26 ct26), sl26⟩) (c26 : PySem.W.codeIn K cd26 "_law_twin" = true) (k26 : PySem.W.keepIn K (.ref f26) = true)
  (a27 : PySem.W.nsIn K mainGlobals "law" = some (some (.ref f27))) (l27 : K.lookup f27 = some ⟨oc27, od27, .func (PySem.W.fnOf "law" "law" (defArgs (topS 48)) (defBody (topS 48)) (defScope (topS 48)) .none kV27 dc27 pm27 an27 cd27 ct27), sl27⟩) (c27 : PySem.W.codeIn K cd27 "law" = true) (k27 : PySem.W.keepIn K (.ref f27) = true)
  (a28 : PySem.W.nsIn K mainGlobals "_law_told" = some (some (.ref f28))) (l28 : K.lookup f28 = some ⟨oc28, od28, .func (PySem.W.fnOf "_law_told" "_law_told" (defArgs (topS 43)) (defBody (topS 43)) (defScope (topS 43)) .none kV28 dc28 pm28 an28 cd28 ct28), sl28⟩) (c28 : PySem.W.codeIn K cd28 "_law_told" = true) (k28 : PySem.W.keepIn K (.ref f28) = true)
  (g0a : PySem.W.nsIn K mainGlobals "MOST_LEAF" = some (some gv0)) (g0k : conV gv0 (.int 99) = true)
  (g1a : PySem.W.nsIn K mainGlobals "MOST_THINGS" = some (some gv1)) (g1k : conV gv1 (.int 10) = true)
  (g2a : PySem.W.nsIn K mainGlobals "MOST_SIZE" = some (some gv2)) (g2k : conV gv2 (.int 60) = true)
  (g3a : PySem.W.nsIn K mainGlobals "MOST_DEEP" = some (some gv3)) (g3k : conV gv3 (.int 6) = true)
  (g4a : PySem.W.nsIn K mainGlobals "MOST_STEM" = some (some gv4)) (g4k : conV gv4 (.int 60) = true)
  (g5a : PySem.W.nsIn K mainGlobals "MOST_SMALL" = some (some gv5)) (g5k : conV gv5 (.int 5) = true)
  (g6a : PySem.W.nsIn K mainGlobals "ENDLESS" = some (some gv6)) (g6k : conV gv6 (.str "endless") = true)
  (z0 : PySem.W.nsIn K mainGlobals "isinstance" = some none)
  (z1 : PySem.W.nsIn K mainGlobals "int" = some none)
  (z2 : PySem.W.nsIn K mainGlobals "bool" = some none)
  (z3 : PySem.W.nsIn K mainGlobals "tuple" = some none)
  (z4 : PySem.W.nsIn K mainGlobals "len" = some none)
  (z5 : PySem.W.nsIn K mainGlobals "all" = some none)
  (z6 : PySem.W.nsIn K mainGlobals "str" = some none)
  (z7 : PySem.W.nsIn K mainGlobals "range" = some none)
  (z8 : PySem.W.nsIn K mainGlobals "enumerate" = some none)
  (z9 : PySem.W.nsIn K mainGlobals "ValueError" = some none)
  (z10 : PySem.W.nsIn K mainGlobals "list" = some none)
  (z11 : PySem.W.nsIn K mainGlobals "repr" = some none) (xo : exOk K cls = true) (hTb : Tb.T K = tabsOf lams K) (ap : tabAp K lams = true) :
  Glob K mg G ∧ (∀ b ∈ bs, mg b = none) ∧ ∀ f e, T f = some e → ∀ base : Heap, (∀ p ∈ codesOf lams K, LamX.TabB base mg p.1 p.2) → Tied prog w K mg base T G bs f e := by
  have ef : ExF K mg cls := exF_of X Gn xo
  have tf : ∀ x fl, (x, fl) ∈ tolds → ToldF K mg x fl := by
    have h0 : ToldF K mg "_law_told" "_law_field" := toldF_of ef (PySem.W.mg_of X Gn a28) (fun_mk (st := topS 43) l28 c28 k28) ((fun_mk (st := topS 43) l28 c28 k28).binds (fun _ _ _ _ _ _ us hl => match us, hl with | [_], _ => rfl)) tn__law_told (by decide +kernel)
    intro x fl h
    unfold tolds at h
    simp only [List.mem_cons, List.not_mem_nil, or_false, Prod.mk.injEq] at h
    obtain ⟨rfl, rfl⟩ := h; exact h0
  refine ⟨glob_all ?_, none_all ?_, fun f e hf base TB => (tied_all (base := base) ?_) f e hf⟩
  · exact GlobL.cons (glob_val (PySem.W.mg_of X Gn g0a) g0k) (GlobL.cons (glob_val (PySem.W.mg_of X Gn g1a) g1k) (GlobL.cons (glob_val (PySem.W.mg_of X Gn g2a) g2k) (GlobL.cons (glob_val (PySem.W.mg_of X Gn g3a) g3k) (GlobL.cons (glob_val (PySem.W.mg_of X Gn g4a) g4k) (GlobL.cons (glob_val (PySem.W.mg_of X Gn g5a) g5k) (GlobL.cons (glob_val (PySem.W.mg_of X Gn g6a) g6k) (GlobL.nil)))))))
  · exact NoneL.cons (PySem.W.mg_none_of X Gn z0) (NoneL.cons (PySem.W.mg_none_of X Gn z1) (NoneL.cons (PySem.W.mg_none_of X Gn z2) (NoneL.cons (PySem.W.mg_none_of X Gn z3) (NoneL.cons (PySem.W.mg_none_of X Gn z4) (NoneL.cons (PySem.W.mg_none_of X Gn z5) (NoneL.cons (PySem.W.mg_none_of X Gn z6) (NoneL.cons (PySem.W.mg_none_of X Gn z7) (NoneL.cons (PySem.W.mg_none_of X Gn z8) (NoneL.cons (PySem.W.mg_none_of X Gn z9) (NoneL.cons (PySem.W.mg_none_of X Gn z10) (NoneL.cons (PySem.W.mg_none_of X Gn z11) (NoneL.nil))))))))))))
  · exact TiedL.cons (tie_is_whole ef (glA_of a0) (PySem.W.mg_of X Gn a0) (fun_mk (st := topS 12) l0 c0 k0)) (TiedL.cons (tie_is_among ef (glA_of a1) (PySem.W.mg_of X Gn a1) (fun_mk (st := topS 13) l1 c1 k1)) (TiedL.cons (tie_is_leaf ef (glA_of a2) (PySem.W.mg_of X Gn a2) (fun_mk (st := topS 21) l2 c2 k2)) (TiedL.cons (tie_size_within ef (glA_of a3) (PySem.W.mg_of X Gn a3) (fun_mk (st := topS 22) l3 c3 k3)) (TiedL.cons (tie_is_worth ef (glA_of a4) (PySem.W.mg_of X Gn a4) (fun_mk (st := topS 23) l4 c4 k4)) (TiedL.cons (tie_are_worths ef (glA_of a5) (PySem.W.mg_of X Gn a5) (fun_mk (st := topS 24) l5 c5 k5)) (TiedL.cons (tie_is_endless ef (glA_of a6) (PySem.W.mg_of X Gn a6) (fun_mk (st := topS 25) l6 c6 k6)) (TiedL.cons (tie_is_thing ef (glA_of a7) (PySem.W.mg_of X Gn a7) (fun_mk (st := topS 26) l7 c7 k7)) (TiedL.cons (tie_need_thing ef (glA_of a8) (PySem.W.mg_of X Gn a8) (fun_mk (st := topS 27) l8 c8 k8)) (TiedL.cons (tie_goes_on ef (glA_of a9) (PySem.W.mg_of X Gn a9) (fun_mk (st := topS 28) l9 c9 k9)) (TiedL.cons (tie_least_round ef (glA_of a10) (PySem.W.mg_of X Gn a10) (fun_mk (st := topS 29) l10 c10 k10)) (TiedL.cons (tie_leaned ef (glA_of a11) (PySem.W.mg_of X Gn a11) (fun_mk (st := topS 30) l11 c11 k11)) (TiedL.cons (tie_lean ef (glA_of a12) (PySem.W.mg_of X Gn a12) (fun_mk (st := topS 31) l12 c12 k12)) (TiedL.cons (tie__law_mixed ef (glA_of a13) (PySem.W.mg_of X Gn a13) (fun_mk (st := topS 33) l13 c13 k13)) (TiedL.cons (tie__law_folded ef (glA_of a14) (PySem.W.mg_of X Gn a14) (fun_mk (st := topS 34) l14 c14 k14)) (TiedL.cons (tie__law_draw ef (glA_of a15) (PySem.W.mg_of X Gn a15) (fun_mk (st := topS 35) l15 c15 k15)) (TiedL.cons (tie__law_begun ef (glA_of a16) (PySem.W.mg_of X Gn a16) (fun_mk (st := topS 36) l16 c16 k16)) (TiedL.cons (tie__law_leaf ef (glA_of a17) (PySem.W.mg_of X Gn a17) (fun_mk (st := topS 37) l17 c17 k17)) (TiedL.cons (tie__law_worth ef (glA_of a18) (PySem.W.mg_of X Gn a18) (fun_mk (st := topS 38) l18 c18 k18)) (TiedL.cons (tie__law_row ef (glA_of a19) (PySem.W.mg_of X Gn a19) (fun_mk (st := topS 39) l19 c19 k19)) (TiedL.cons (tie__law_endless ef (glA_of a20) (PySem.W.mg_of X Gn a20) (fun_mk (st := topS 40) l20 c20 k20)) (TiedL.cons (tie__law_class ef (glA_of a21) (PySem.W.mg_of X Gn a21) (fun_mk (st := topS 41) l21 c21 k21)) (TiedL.cons (tie__law_field ef (glA_of a22) (PySem.W.mg_of X Gn a22) (fun_mk (st := topS 42) l22 c22 k22)) (TiedL.cons (tie__law_things ef (glA_of a23) (PySem.W.mg_of X Gn a23) (fun_mk (st := topS 44) l23 c23 k23)) (TiedL.cons (tie__law_shortest ef (glA_of a24) (PySem.W.mg_of X Gn a24) (fun_mk (st := topS 45) l24 c24 k24)) (TiedL.cons (tie__law_longer ef (glA_of a25) (PySem.W.mg_of X Gn a25) (fun_mk (st := topS 46) l25 c25 k25)) (TiedL.cons (tie__law_twin ef (glA_of a26) (PySem.W.mg_of X Gn a26) (fun_mk (st := topS 47) l26 c26 k26)) (TiedL.cons (tie_law ef tf (TB _ (codes_mem (x := "law") (by decide +kernel))) (code_of a27 l27 c27) (tabs_mem (x := "law") hTb (by decide +kernel)) (tabs_uniq (x := "law") hTb ap (by decide +kernel)) (glA_of a27) (PySem.W.mg_of X Gn a27) (fun_mk (st := topS 48) l27 c27 k27)) (TiedL.nil))))))))))))))))))))))))))))
end Mi.K04
/-! Mi26: a text of numbers and rows tells them. -/
namespace Mi
open PySem PySem.Spec PyProof.Rows L2
open TL (numL tl_num numL_digits numL_ne numL_inj)
/-- numbers from 0 on, rows of such -/
def Wo : Nat → D → Prop
  | _, .int i => 0 ≤ i ∧ i < 1000000000
  | k + 1, .tup l => ∀ x ∈ l, Wo k x
  | _, _ => False
theorem Wo.int {k : Nat} {i : Int} (h : 0 ≤ i ∧ i < 1000000000) : Wo k (.int i) := by cases k <;> exact h
theorem Wo.cases {k : Nat} {d : D} (w : Wo k d) : (∃ i : Int, d = .int i ∧ 0 ≤ i ∧ i < 1000000000) ∨ ∃ j l, k = j + 1 ∧ d = .tup l ∧ ∀ x ∈ l, Wo j x := by
  cases d with
  | int i => exact .inl ⟨i, rfl, by cases k <;> exact w⟩
  | tup l =>
    cases k with
    | zero => exact w.elim
    | succ k => exact .inr ⟨k, l, rfl, rfl, w⟩
  | _ => cases k <;> exact w.elim
theorem size_wo : ∀ {k : Nat} {d : D}, 0 < sizeW k d → Wo k d
  | 0, d, p => by simp [sizeW] at p
  | k + 1, d, p => by
    by_cases lf : leafD d = true
    · obtain ⟨i, rfl, h1, h2⟩ := leaf_int lf
      exact Wo.int ⟨h1, by omega⟩
    · cases d with
      | tup l =>
        obtain ⟨q1, q2, q3, q4⟩ := size_row p
        exact fun x hx => size_wo (q2 x hx)
      | _ => simp [sizeW, lf] at p
def cs (d : D) : List Nat := (rp d).cps.toList
theorem rp_int {i : Int} : rp (.int i) = Str.ofString (toString i) := by simp [rp, D.py, PyData.shown]
theorem cs_num (n : Nat) : cs (.int (n : Nat)) = numL n := by
  unfold cs
  rw [rp_int]
  exact tl_num n
def sg (c : Nat) : Bool := decide (48 ≤ c) && decide (c ≤ 57)
theorem num_sg (n : Nat) : ∀ c ∈ numL n, sg c = true := fun c hc => by
  have := numL_digits n c hc
  simp only [sg, Bool.and_eq_true, decide_eq_true_eq]
  exact this
/-- what may stand behind a thing -/
def dl (u : List Nat) : Prop := ∀ c, u.head? = some c → sg c = false
theorem span_eq : ∀ {a b u v : List Nat}, (∀ c ∈ a, sg c = true) → (∀ c ∈ b, sg c = true) → dl u → dl v → a ++ u = b ++ v → a = b ∧ u = v
  | [], [], u, v, _, _, _, _, e => ⟨rfl, e⟩
  | [], y :: b, u, v, _, hb, hu, _, e => by
    have e : u = y :: (b ++ v) := e
    have := hu y (by rw [e]; rfl)
    rw [hb y List.mem_cons_self] at this
    cases this
  | x :: a, [], u, v, ha, _, _, hv, e => by
    have e : x :: (a ++ u) = v := e
    have := hv x (by rw [← e]; rfl)
    rw [ha x List.mem_cons_self] at this
    cases this
  | x :: a, y :: b, u, v, ha, hb, hu, hv, e => by
    have e : x :: (a ++ u) = y :: (b ++ v) := e
    obtain ⟨e1, e2⟩ := List.cons.inj e
    obtain ⟨e3, e4⟩ := span_eq (fun c hc => ha c (List.mem_cons_of_mem _ hc)) (fun c hc => hb c (List.mem_cons_of_mem _ hc)) hu hv e2
    exact ⟨by rw [e1, e3], e4⟩
/-- the things behind the first one -/
def tls : List D → List Nat
  | [] => [41]
  | x :: r => 44 :: 32 :: (cs x ++ tls r)
def bod : List D → List Nat
  | [] => [41]
  | [x] => cs x ++ [44, 41]
  | x :: y :: r => cs x ++ tls (y :: r)
theorem pyOf {k : Nat} {d : D} (w : Wo k d) : ∃ p, d.py = some p ∧ p.shown = rp d := by
  have h : ∀ {k : Nat} {d : D}, Wo k d → ∃ p, d.py = some p := by
    intro k
    induction k with
    | zero =>
      intro d w
      rcases w.cases with ⟨i, rfl, _⟩ | ⟨j, l, e, _⟩
      · exact ⟨_, by simp [D.py]; rfl⟩
      · cases e
    | succ k ih =>
      intro d w
      rcases w.cases with ⟨i, rfl, _⟩ | ⟨j, l, e, rfl, hl⟩
      · exact ⟨_, by simp [D.py]; rfl⟩
      · cases e
        have : ∀ {l : List D}, (∀ x ∈ l, Wo k x) → ∃ ps, pyAll l = some ps := by
          intro l
          induction l with
          | nil => intro _; exact ⟨[], by simp [pyAll]⟩
          | cons x l ihl =>
            intro h
            obtain ⟨p, e⟩ := ih (h x List.mem_cons_self)
            obtain ⟨ps, e2⟩ := ihl fun y hy => h y (List.mem_cons_of_mem _ hy)
            exact ⟨p :: ps, by simp [pyAll, e, e2]⟩
        obtain ⟨ps, e⟩ := this hl
        exact ⟨.tuple ps, by simp [D.py, e]⟩
  obtain ⟨p, e⟩ := h w
  exact ⟨p, e, by unfold rp; rw [e]⟩
theorem all_of {k : Nat} : ∀ {l : List D}, (∀ x ∈ l, Wo k x) → ∃ ps, pyAll l = some ps ∧ PyData.shownAll ps = l.map rp
  | [], _ => ⟨[], by simp [pyAll], rfl⟩
  | x :: l, h => by
    obtain ⟨p, e, f⟩ := pyOf (h x List.mem_cons_self)
    obtain ⟨ps, e2, f2⟩ := all_of (l := l) fun y hy => h y (List.mem_cons_of_mem _ hy)
    exact ⟨p :: ps, by simp [pyAll, e, e2], by simp [PyData.shownAll, f, f2]⟩
theorem join_tls : ∀ (x : D) (r : List D), (Str.join ", " ((x :: r).map rp)).cps.toList ++ [41] = cs x ++ tls r
  | x, [] => by
    show (Str.join ", " [rp x]).cps.toList ++ [41] = _
    rw [join_one]; rfl
  | x, y :: r => by
    show (Str.join ", " (rp x :: rp y :: r.map rp)).cps.toList ++ [41] = _
    rw [join_cons_cons, cps_toList_append, cps_toList_append, signs_sep]
    have ih := join_tls y r
    have ih : (Str.join ", " (rp y :: r.map rp)).cps.toList ++ [41] = cs y ++ tls r := ih
    show ((rp x).cps.toList ++ [44, 32] ++ (Str.join ", " (rp y :: r.map rp)).cps.toList) ++ [41] = cs x ++ tls (y :: r)
    rw [List.append_assoc, ih]
    show ((rp x).cps.toList ++ [44, 32]) ++ (cs y ++ tls r) = (rp x).cps.toList ++ (44 :: 32 :: (cs y ++ tls r))
    rw [List.append_assoc]; rfl
theorem cs_tup {k : Nat} {l : List D} (h : ∀ x ∈ l, Wo k x) : cs (.tup l) = 40 :: bod l := by
  obtain ⟨ps, e, f⟩ := all_of h
  have e1 : rp (.tup l) = tupleText (l.map rp) := by
    unfold rp
    rw [show (D.tup l).py = some (.tuple ps) by simp [D.py, e]]
    show (PyData.tuple ps).shown = _
    simp only [PyData.shown, f]
    rfl
  unfold cs
  rw [e1]
  unfold tupleText
  rw [cps_toList_append, cps_toList_append, signs_lparen]
  match l with
  | [] => decide
  | [x] =>
    show ([40] ++ (Str.join ", " [rp x]).cps.toList) ++ (Str.ofString ",)").cps.toList = _
    rw [join_one, show (Str.ofString ",)").cps.toList = [44, 41] by decide]
    rfl
  | x :: y :: r =>
    have j := join_tls x (y :: r)
    show ([40] ++ (Str.join ", " ((x :: y :: r).map rp)).cps.toList) ++ (if ((x :: y :: r).map rp).length == 1 then Str.ofString ",)" else Str.ofString ")").cps.toList = _
    have hl : ((((x :: y :: r).map rp).length == 1) = false) := by simp
    rw [hl]
    show ([40] ++ (Str.join ", " ((x :: y :: r).map rp)).cps.toList) ++ (Str.ofString ")").cps.toList = _
    rw [show (Str.ofString ")").cps.toList = [41] by decide, List.append_assoc, j]
    rfl
theorem cs_head {k : Nat} {d : D} (w : Wo k d) : ∃ c r, cs d = c :: r ∧ (c = 40 ∨ sg c = true) := by
  rcases w.cases with ⟨i, rfl, h1, h2⟩ | ⟨j, l, rfl, rfl, hl⟩
  · obtain ⟨n, rfl⟩ := Int.eq_ofNat_of_zero_le h1
    rw [cs_num]
    match e : numL n with
    | [] => exact absurd e (numL_ne n)
    | c :: r => exact ⟨c, r, rfl, .inr (num_sg n c (by rw [e]; exact List.mem_cons_self))⟩
  · exact ⟨40, bod l, cs_tup hl, .inl rfl⟩
theorem dl_41 {u : List Nat} : dl (41 :: u) := fun c e => by cases e; rfl
theorem dl_44 {u : List Nat} : dl (44 :: u) := fun c e => by cases e; rfl
theorem dl_tls {r : List D} {u : List Nat} : dl (tls r ++ u) := by
  cases r with
  | nil => exact dl_41
  | cons x r => exact dl_44
theorem tls_inj {k : Nat} (ih : ∀ x y u v, Wo k x → Wo k y → dl u → dl v → cs x ++ u = cs y ++ v → x = y ∧ u = v) : ∀ {r s : List D} {u v : List Nat}, (∀ x ∈ r, Wo k x) → (∀ x ∈ s, Wo k x) → tls r ++ u = tls s ++ v → r = s ∧ u = v
  | [], [], u, v, _, _, e => ⟨rfl, (List.cons.inj (show 41 :: u = 41 :: v from e)).2⟩
  | [], y :: s, u, v, _, _, e => by
    have := (List.cons.inj (show 41 :: u = 44 :: (32 :: (cs y ++ tls s) ++ v) from e)).1
    cases this
  | x :: r, [], u, v, _, _, e => by
    have := (List.cons.inj (show 44 :: (32 :: (cs x ++ tls r) ++ u) = 41 :: v from e)).1
    cases this
  | x :: r, y :: s, u, v, hr, hs, e => by
    have e1 := (List.cons.inj (List.cons.inj (show 44 :: 32 :: ((cs x ++ tls r) ++ u) = 44 :: 32 :: ((cs y ++ tls s) ++ v) from e)).2).2
    rw [List.append_assoc, List.append_assoc] at e1
    obtain ⟨e2, e3⟩ := ih x y _ _ (hr x List.mem_cons_self) (hs y List.mem_cons_self) dl_tls dl_tls e1
    obtain ⟨e4, e5⟩ := tls_inj ih (fun z hz => hr z (List.mem_cons_of_mem _ hz)) (fun z hz => hs z (List.mem_cons_of_mem _ hz)) e3
    exact ⟨by rw [e2, e4], e5⟩
theorem bod_inj {k : Nat} (ih : ∀ x y u v, Wo k x → Wo k y → dl u → dl v → cs x ++ u = cs y ++ v → x = y ∧ u = v) {l m : List D} {u v : List Nat} (hl : ∀ x ∈ l, Wo k x) (hm : ∀ x ∈ m, Wo k x) (e : bod l ++ u = bod m ++ v) : l = m ∧ u = v := by
  have no : ∀ {x : D} {a b : List Nat}, Wo k x → 41 :: a ≠ cs x ++ b := fun {x a b} w e => by
    obtain ⟨c, r, e1, e2⟩ := cs_head w
    rw [e1] at e
    have e := (List.cons.inj (show 41 :: a = c :: (r ++ b) from e)).1
    subst e
    rcases e2 with e2 | e2
    · cases e2
    · cases e2
  match l, m with
  | [], [] => exact ⟨rfl, (List.cons.inj (show 41 :: u = 41 :: v from e)).2⟩
  | [], [y] => exact absurd (show 41 :: u = cs y ++ ([44, 41] ++ v) by rw [← List.append_assoc]; exact e) (no (hm y (by simp)))
  | [], y :: z :: s => exact absurd (show 41 :: u = cs y ++ (tls (z :: s) ++ v) by rw [← List.append_assoc]; exact e) (no (hm y (by simp)))
  | [x], [] => exact absurd (show 41 :: v = cs x ++ ([44, 41] ++ u) by rw [← List.append_assoc]; exact e.symm) (no (hl x (by simp)))
  | x :: w :: r, [] => exact absurd (show 41 :: v = cs x ++ (tls (w :: r) ++ u) by rw [← List.append_assoc]; exact e.symm) (no (hl x (by simp)))
  | [x], [y] =>
    have e : cs x ++ ([44, 41] ++ u) = cs y ++ ([44, 41] ++ v) := by rw [← List.append_assoc, ← List.append_assoc]; exact e
    obtain ⟨e1, e2⟩ := ih x y _ _ (hl x (by simp)) (hm y (by simp)) dl_44 dl_44 e
    exact ⟨by rw [e1], (List.cons.inj (List.cons.inj e2).2).2⟩
  | [x], y :: z :: s =>
    have e : cs x ++ ([44, 41] ++ u) = cs y ++ (tls (z :: s) ++ v) := by rw [← List.append_assoc, ← List.append_assoc]; exact e
    obtain ⟨_, e2⟩ := ih x y _ _ (hl x (by simp)) (hm y (by simp)) dl_44 dl_tls e
    have := (List.cons.inj (List.cons.inj (show 44 :: 41 :: u = 44 :: 32 :: (cs z ++ tls s ++ v) from e2)).2).1
    cases this
  | x :: w :: r, [y] =>
    have e : cs x ++ (tls (w :: r) ++ u) = cs y ++ ([44, 41] ++ v) := by rw [← List.append_assoc, ← List.append_assoc]; exact e
    obtain ⟨_, e2⟩ := ih x y _ _ (hl x (by simp)) (hm y (by simp)) dl_tls dl_44 e
    have := (List.cons.inj (List.cons.inj (show 44 :: 32 :: (cs w ++ tls r ++ u) = 44 :: 41 :: v from e2)).2).1
    cases this
  | x :: w :: r, y :: z :: s =>
    have e : cs x ++ (tls (w :: r) ++ u) = cs y ++ (tls (z :: s) ++ v) := by rw [← List.append_assoc, ← List.append_assoc]; exact e
    obtain ⟨e1, e2⟩ := ih x y _ _ (hl x (by simp)) (hm y (by simp)) dl_tls dl_tls e
    obtain ⟨e3, e4⟩ := tls_inj ih (fun t ht => hl t (List.mem_cons_of_mem _ ht)) (fun t ht => hm t (List.mem_cons_of_mem _ ht)) e2
    exact ⟨by rw [e1, e3], e4⟩
theorem cs_inj : ∀ (k : Nat) (x y : D) (u v : List Nat), Wo k x → Wo k y → dl u → dl v → cs x ++ u = cs y ++ v → x = y ∧ u = v := by
  intro k
  induction k with
  | zero =>
    intro x y u v hx hy hu hv e
    rcases hx.cases with ⟨i, rfl, h1, h2⟩ | ⟨_, _, z, _⟩
    · rcases hy.cases with ⟨j, rfl, g1, g2⟩ | ⟨_, _, z, _⟩
      · obtain ⟨n, rfl⟩ := Int.eq_ofNat_of_zero_le h1
        obtain ⟨m, rfl⟩ := Int.eq_ofNat_of_zero_le g1
        rw [cs_num, cs_num] at e
        obtain ⟨e1, e2⟩ := span_eq (num_sg n) (num_sg m) hu hv e
        exact ⟨by rw [numL_inj e1], e2⟩
      · cases z
    · cases z
  | succ k ih =>
    intro x y u v hx hy hu hv e
    rcases hx.cases with ⟨i, rfl, h1, h2⟩ | ⟨_, l, z, rfl, hl⟩
    · obtain ⟨n, rfl⟩ := Int.eq_ofNat_of_zero_le h1
      rcases hy.cases with ⟨j, rfl, g1, g2⟩ | ⟨_, m, z, rfl, hm⟩
      · obtain ⟨m, rfl⟩ := Int.eq_ofNat_of_zero_le g1
        rw [cs_num, cs_num] at e
        obtain ⟨e1, e2⟩ := span_eq (num_sg n) (num_sg m) hu hv e
        exact ⟨by rw [numL_inj e1], e2⟩
      · cases z
        rw [cs_tup hm, cs_num] at e
        match en : numL n with
        | [] => exact absurd en (numL_ne n)
        | c :: r =>
          rw [en] at e
          have e := (List.cons.inj (show c :: (r ++ u) = 40 :: (bod m ++ v) from e)).1
          have := num_sg n c (by rw [en]; exact List.mem_cons_self)
          rw [e] at this
          cases this
    · cases z
      rcases hy.cases with ⟨j, rfl, g1, g2⟩ | ⟨_, m, z, rfl, hm⟩
      · obtain ⟨n, rfl⟩ := Int.eq_ofNat_of_zero_le g1
        rw [cs_tup hl, cs_num] at e
        match en : numL n with
        | [] => exact absurd en (numL_ne n)
        | c :: r =>
          rw [en] at e
          have e := (List.cons.inj (show 40 :: (bod l ++ u) = c :: (r ++ v) from e)).1
          have := num_sg n c (by rw [en]; exact List.mem_cons_self)
          rw [← e] at this
          cases this
      · cases z
        rw [cs_tup hl, cs_tup hm] at e
        have e := (List.cons.inj (show 40 :: (bod l ++ u) = 40 :: (bod m ++ v) from e)).2
        obtain ⟨e1, e2⟩ := bod_inj ih hl hm e
        exact ⟨by rw [e1], e2⟩
/-- the same text, the same thing -/
theorem rp_inj {k : Nat} {x y : D} (hx : Wo k x) (hy : Wo k y) (e : rp x = rp y) : x = y :=
  (cs_inj k x y [] [] hx hy (fun c z => by cases z) (fun c z => by cases z) (by show cs x ++ [] = cs y ++ []; unfold cs; rw [e])).1
end Mi
/-! P04: law k04, in plain Lean. -/
namespace Mi
open PySem PySem.Spec PyProof.Rows L2
/-! ### the shortest row by its things -/
def okW (t : List D) (z l : Nat) : Prop := ∀ k, l ≤ k → k + z < t.length → t[k]? = t[k + z]?
section
variable {s a t : List D}
theorem strm_mod (h : a ≠ []) {i : Nat} (hi : s.length ≤ i) : strm s a i = strm s a (s.length + (i - s.length) % a.length) := by
  rw [strm_ge hi, strm_ge (by omega), show s.length + (i - s.length) % a.length - s.length = (i - s.length) % a.length by omega, cyc_mod]
/-- what repeats in the window repeats for ever -/
theorem okW_per (h : a ≠ []) (tg : ∀ i, i < t.length → t[i]? = strm s a i) {z l : Nat} (hz : z ≤ a.length) (hl : l ≤ s.length) (tl : s.length + a.length + z ≤ t.length) (w : okW t z l) : ∀ i, l ≤ i → strm s a (i + z) = strm s a i := by
  have hp : 0 < a.length := List.length_pos_iff.mpr h
  intro i hi
  by_cases q : i + z < t.length
  · rw [← tg _ q, ← tg i (by omega)]; exact (w i hi q).symm
  · have hs : s.length ≤ i := by omega
    have hm := Nat.mod_lt (i - s.length) hp
    obtain ⟨j, ej⟩ : ∃ j, j = s.length + (i - s.length) % a.length := ⟨_, rfl⟩
    have e1 : strm s a i = strm s a j := by rw [ej]; exact strm_mod h hs
    have e2 : strm s a (i + z) = strm s a (j + z) := by
      rw [strm_mod h (by omega : s.length ≤ i + z), strm_mod h (by omega : s.length ≤ j + z)]
      congr 2
      rw [show i + z - s.length = (i - s.length) + z by omega, show j + z - s.length = (i - s.length) % a.length + z by omega, Nat.mod_add_mod]
    rw [e1, e2, ← tg (j + z) (by omega), ← tg j (by omega)]
    exact (w j (by omega) (by omega)).symm
theorem per_okW (tg : ∀ i, i < t.length → t[i]? = strm s a i) {z l : Nat} (p : ∀ i, l ≤ i → strm s a (i + z) = strm s a i) : okW t z l := fun k hk h => by
  rw [tg k (by omega), tg _ h, p k hk]
theorem okW_self (tg : ∀ i, i < t.length → t[i]? = strm s a i) : okW t a.length s.length := per_okW tg fun i hi => strm_per i hi
theorem okW_lean (h : a ≠ []) (tg : ∀ i, i < t.length → t[i]? = strm s a i) {z l : Nat} (z0 : 0 < z) (hz : z ≤ a.length) (hl : l ≤ s.length) (tl : s.length + 2 * a.length ≤ t.length) (w : okW t z l)
    (m1 : ∀ z', 0 < z' → z' < z → ∀ l', l' ≤ s.length → ¬ okW t z' l') (m2 : ∀ l', l' < l → ¬ okW t z l') : leaned s a = (t.take l, (t.drop l).take z) := by
  have per := okW_per h tg hz hl (by omega) w
  have lk : (t.take l).length = l := by rw [List.length_take]; omega
  have la : ((t.drop l).take z).length = z := by rw [List.length_take, List.length_drop]; omega
  have a0 : (t.drop l).take z ≠ [] := fun e => by rw [e] at la; simp at la; omega
  have perk : ∀ q i, l ≤ i → strm s a (i + q * z) = strm s a i := by
    intro q
    induction q with
    | zero => intro i _; simp
    | succ q ih => intro i hi; rw [show i + (q + 1) * z = (i + q * z) + z by rw [Nat.add_mul]; omega, per _ (by omega), ih i hi]
  have eq : strm (t.take l) ((t.drop l).take z) = strm s a := by
    funext i
    by_cases q : i < l
    · rw [strm_lt (by omega), List.getElem?_take_of_lt q, tg i (by omega)]
    · rw [strm_ge (by omega), lk]
      unfold cyc
      rw [la]
      have hm := Nat.mod_lt (i - l) z0
      rw [List.getElem?_take_of_lt hm, List.getElem?_drop, tg _ (by omega)]
      have := perk ((i - l) / z) (l + (i - l) % z) (by omega)
      rw [← this]
      congr 1
      have := Nat.div_add_mod (i - l) z
      rw [Nat.mul_comm] at this
      omega
  have lean : isLean (t.take l) ((t.drop l).take z) := by
    refine ⟨a0, fun m hm => ?_, ?_⟩
    · have hm2 := hm
      rw [hasP_iff] at hm2
      obtain ⟨q1, q2, q3, q4⟩ := hm2
      rw [la] at q2
      refine m1 m q1 q2 l hl (per_okW tg fun i hi => ?_)
      rw [← eq, strm_ge (by omega), strm_ge (by omega), lk, show i + m - l = (i - l) + m by omega, q4]
    · by_cases z1 : l = 0
      · left; subst z1; simp
      · right
        intro e
        refine m2 (l - 1) (by omega) (per_okW tg fun i hi => ?_)
        by_cases q : l ≤ i
        · exact per i q
        · have ei : i = l - 1 := by omega
          subst ei
          have e1 : (t.take l).getLast? = t[l - 1]? := by
            rw [List.getLast?_eq_getElem?, lk, List.getElem?_take_of_lt (by omega)]
          have e2 : ((t.drop l).take z).getLast? = t[l + (z - 1)]? := by
            rw [List.getLast?_eq_getElem?, la, List.getElem?_take_of_lt (by omega), List.getElem?_drop]
          rw [e1, e2] at e
          rw [← tg (l - 1) (by omega), e, show l - 1 + z = l + (z - 1) by omega, ← tg _ (by omega)]
  rw [← leaned_self lean]
  exact leaned_eq h a0 eq.symm
end
theorem strm_again {s a : List D} (h : a ≠ []) : strm (s ++ a) a = strm s a := by
  have hp : 0 < a.length := List.length_pos_iff.mpr h
  funext i
  rw [strm_app]
  by_cases q : i < s.length
  · rw [if_pos q, strm_lt q]
  · rw [if_neg q, strm_ge (s := s) (by omega)]
    by_cases q2 : i - s.length < a.length
    · rw [strm_lt q2, cyc_lt q2]
    · rw [strm_ge (by omega)]
      have := cyc_add (a := a) (i - s.length - a.length)
      rw [show i - s.length - a.length + a.length = i - s.length by omega] at this
      exact this.symm
section
variable {X : Exc → Hh → Prop} {h : Hh} {Q : R → Hh → Prop}
theorem w_slN {l : List D} {lo hi : Option Int} (p : Q (.new (cutD l lo hi)) h) : evX X (Res.of h (slF h lo hi (.new l))) Q := w_of rfl p
theorem w_toLT {l : List D} (p : Q (.new l) h) : evX X (Res.of h (bltF h .toList [.tup l])) Q := w_of rfl p
end
namespace K04
variable {X : Exc → Hh → Prop}
local macro_rules | `(tactic| walk_at "run") => `(tactic| repeat (first
  | with_reducible refine w_notT ?_ | with_reducible refine w_notF ?_
  | with_reducible refine w_con ?_ | ((with_reducible refine' w_var ?e ?_); case e => rfl)
  | with_reducible refine w_bin ?_ | with_reducible refine w_fzD ?_ | with_reducible refine w_bind ?_ | with_reducible refine w_ok ?_
  | with_reducible refine w_addI ?_ | with_reducible refine w_subI ?_
  | with_reducible refine w_cons ?_ | with_reducible refine w_nil ?_ | with_reducible refine w_call ?_
  | with_reducible refine v_cons ?_ | ((with_reducible refine v_contN ?_); try simp only [setV, List.set_cons_succ, List.set_cons_zero]) | with_reducible refine v_contR ?_ | with_reducible refine v_asg ?_ | with_reducible refine v_ret ?_ | with_reducible refine v_retD ?_ | with_reducible refine v_endR ?_
  | with_reducible refine v_nil ?_ | with_reducible refine v_ifs ?_ | with_reducible refine w_brt ?_ | with_reducible refine w_brf ?_
  | with_reducible refine w_and ?_ | with_reducible refine w_or ?_ | with_reducible refine w_not ?_ | with_reducible refine w_notR ?_ | with_reducible refine w_ite ?_
  | with_reducible refine w_cmp ?_ | with_reducible refine w_chain ?_ | with_reducible refine w_ltI ?_ | with_reducible refine w_leI ?_ | with_reducible refine w_gtI ?_ | with_reducible refine w_geI ?_ | with_reducible refine w_eqI ?_
  | with_reducible refine w_isi ?_ | with_reducible refine w_blt ?_ | with_reducible refine w_ix ?_ | with_reducible refine w_dget ?_
  | ((with_reducible refine' w_modI ?e ?_); case e => (first | decide | omega))
  | ((with_reducible refine' w_fdivI ?e ?_); case e => (first | decide | omega))
  | ((with_reducible refine' w_mulI ?e ?_); case e => (first | exact near_r (by decide) | exact near_l (by decide) | exact near_ro (by omega) (by omega) | exact near_lo (by omega) (by omega)))
  | ((with_reducible refine' w_powI ?e ?_); case e => decide)
  | with_reducible refine w_neg ?_ | with_reducible refine w_negI ?_
  | with_reducible refine w_tup ?_ | with_reducible refine w_lst ?_ | ((with_reducible refine' w_lenR ?e ?_); case e => (first | decide | (simp only [List.length_cons, List.length_nil, Nat.zero_add, Nat.reduceAdd]; decide)))
  | with_reducible refine w_fzN ?_ | ((with_reducible refine' w_glo ?e ?_); case e => (first | assumption | rfl))
  | with_reducible refine w_sl ?_ | with_reducible refine w_ono ?_ | with_reducible refine w_opart ?_ | with_reducible refine w_intR ?_ | with_reducible refine w_strR ?_ | with_reducible refine w_tupR ?_ | with_reducible refine w_newR ?_ | ((with_reducible refine' w_optR ?e ?_); case e => rfl)
  | with_reducible refine w_mth ?_ | with_reducible refine w_comp ?_ | with_reducible refine w_seq ?_ | with_reducible refine w_rng1 ?_ | with_reducible refine w_rng2 ?_ | with_reducible refine w_rng3 ?_ | with_reducible refine w_enum ?_ | ((with_reducible refine' w_rng1R ?e ?_); case e => exact rng_ok1 (by omega) (by omega)) | ((with_reducible refine' w_rngR ?e ?_); case e => exact rng_ok2 (by omega) (by omega) (by omega) (by omega)) | ((with_reducible refine' w_rngD ?e ?_); case e => exact rng_ok2 (by omega) (by omega) (by omega) (by omega))
  | with_reducible refine w_promo ?_ | with_reducible refine w_proN ?_ | with_reducible refine w_proD ?_ | with_reducible refine w_dct ?_ | ((with_reducible refine' w_dctR ?e ?_); case e => decide)
  | with_reducible refine v_own ?_ | with_reducible refine v_any ?_ | with_reducible refine v_anyN ?_ | with_reducible refine v_anyD ?_ | with_reducible refine w_blt1 ?_ | with_reducible refine v_asgs ?_ | with_reducible refine v_setL ?_ | with_reducible refine v_setD ?_ | with_reducible refine v_setOwn ?_ | ((with_reducible refine' v_ownR ?e ?_); case e => rfl)
  | ((with_reducible refine' v_app ?e ?_); case e => rfl) | ((with_reducible refine' v_ext ?e ?_); case e => rfl) | with_reducible refine v_expr ?_ | with_reducible refine v_for ?_ | with_reducible refine v_whl ?_
  | ((with_reducible refine' v_retV ?e ?_); case e => rfl) | with_reducible refine v_retn ?_ | with_reducible refine v_pass ?_ | with_reducible refine v_brk ?_ | with_reducible refine v_cnt ?_ | ((with_reducible refine' v_frz ?e ?_); case e => rfl)
  | with_reducible refine v_contB ?_ | with_reducible refine v_contC ?_ | with_reducible refine v_retN ?_ | with_reducible refine v_endN ?_ | with_reducible refine w_compG ?_
  | ((with_reducible refine' w_varO ?e ?_); case e => rfl)
  | ((with_reducible refine' w_dgetK ?e ?q ?_); (case e => first | assumption | rfl); (case q => rfl); (try dsimp only))
  | with_reducible refine w_lenT ?_ | with_reducible refine w_lenLs ?_ | with_reducible refine w_slT ?_ | with_reducible refine w_slL ?_ | with_reducible refine w_tupN ?_ | with_reducible refine w_seqT ?_ | with_reducible refine w_seqL ?_ | with_reducible refine w_seqN ?_ | with_reducible refine w_intB ?_ | with_reducible refine w_intI ?_ | with_reducible refine w_neI ?_
  | with_reducible refine w_isi_int_non ?_ | with_reducible refine w_isi_int_bl ?_ | with_reducible refine w_isi_int_int ?_ | with_reducible refine w_isi_int_str ?_ | with_reducible refine w_isi_int_tup ?_ | with_reducible refine w_isi_int_lst ?_ | with_reducible refine w_isi_bool_non ?_ | with_reducible refine w_isi_bool_bl ?_ | with_reducible refine w_isi_bool_int ?_ | with_reducible refine w_isi_bool_str ?_ | with_reducible refine w_isi_bool_tup ?_ | with_reducible refine w_isi_bool_lst ?_ | with_reducible refine w_isi_str_non ?_ | with_reducible refine w_isi_str_bl ?_ | with_reducible refine w_isi_str_int ?_ | with_reducible refine w_isi_str_str ?_ | with_reducible refine w_isi_str_tup ?_ | with_reducible refine w_isi_str_lst ?_ | with_reducible refine w_isi_tuple_non ?_ | with_reducible refine w_isi_tuple_bl ?_ | with_reducible refine w_isi_tuple_int ?_ | with_reducible refine w_isi_tuple_str ?_ | with_reducible refine w_isi_tuple_tup ?_ | with_reducible refine w_isi_tuple_lst ?_ | with_reducible refine w_isi_list_non ?_ | with_reducible refine w_isi_list_bl ?_ | with_reducible refine w_isi_list_int ?_ | with_reducible refine w_isi_list_str ?_ | with_reducible refine w_isi_list_tup ?_ | with_reducible refine w_isi_list_lst ?_
  | with_reducible refine w_lrng1 ?_ | with_reducible refine w_lrng2 ?_ | ((with_reducible refine' w_lrngR ?e ?_); case e => (refine ⟨?_, ?_, ?_, ?_, ?_⟩ <;> omega)) | with_reducible refine w_lrngR2 ?_ | with_reducible refine w_max2 ?_ | with_reducible refine w_min2 ?_ | with_reducible refine w_zip ?_ | with_reducible refine w_zipT ?_ | with_reducible refine w_zipL ?_ | with_reducible refine w_zipLN ?_
  | with_reducible refine w_fnv ?_ | with_reducible refine w_isx ?_ | with_reducible refine w_attr ?_ | ((with_reducible refine' w_attrR ?e ?_); case e => rfl) | ((with_reducible refine' w_callv ?e ?_); case e => rfl) | with_reducible refine w_told ?_ | with_reducible refine v_raise ?_
  | ((with_reducible refine' w_ixT ?e ?_); case e => rfl)
  | ((with_reducible refine' w_brd ?e ?_); case e => omega)
  | ((with_reducible refine' w_brn ?e ?_); case e => omega)
  | ((with_reducible refine' w_brnd ?e ?_); case e => omega)
  | ((with_reducible refine' w_brnn ?e ?_); case e => omega)
  | ((with_reducible refine' w_brp ?e ?_); case e => assumption)
  | ((with_reducible refine' w_brq ?e ?_); case e => assumption)))
local macro_rules | `(tactic| walk_at "one") => `(tactic| (first
  | with_reducible refine w_notT ?_ | with_reducible refine w_notF ?_
  | with_reducible refine w_con ?_ | ((with_reducible refine' w_var ?e ?_); case e => rfl)
  | with_reducible refine w_bin ?_ | with_reducible refine w_fzD ?_ | with_reducible refine w_bind ?_ | with_reducible refine w_ok ?_
  | with_reducible refine w_addI ?_ | with_reducible refine w_subI ?_
  | with_reducible refine w_cons ?_ | with_reducible refine w_nil ?_ | with_reducible refine w_call ?_
  | with_reducible refine v_cons ?_ | ((with_reducible refine v_contN ?_); try simp only [setV, List.set_cons_succ, List.set_cons_zero]) | with_reducible refine v_contR ?_ | with_reducible refine v_asg ?_ | with_reducible refine v_ret ?_ | with_reducible refine v_retD ?_ | with_reducible refine v_endR ?_
  | with_reducible refine v_nil ?_ | with_reducible refine v_ifs ?_ | with_reducible refine w_brt ?_ | with_reducible refine w_brf ?_
  | with_reducible refine w_and ?_ | with_reducible refine w_or ?_ | with_reducible refine w_not ?_ | with_reducible refine w_notR ?_ | with_reducible refine w_ite ?_
  | with_reducible refine w_cmp ?_ | with_reducible refine w_chain ?_ | with_reducible refine w_ltI ?_ | with_reducible refine w_leI ?_ | with_reducible refine w_gtI ?_ | with_reducible refine w_geI ?_ | with_reducible refine w_eqI ?_
  | with_reducible refine w_isi ?_ | with_reducible refine w_blt ?_ | with_reducible refine w_ix ?_ | with_reducible refine w_dget ?_
  | ((with_reducible refine' w_modI ?e ?_); case e => (first | decide | omega))
  | ((with_reducible refine' w_fdivI ?e ?_); case e => (first | decide | omega))
  | ((with_reducible refine' w_mulI ?e ?_); case e => (first | exact near_r (by decide) | exact near_l (by decide) | exact near_ro (by omega) (by omega) | exact near_lo (by omega) (by omega)))
  | ((with_reducible refine' w_powI ?e ?_); case e => decide)
  | with_reducible refine w_neg ?_ | with_reducible refine w_negI ?_
  | with_reducible refine w_tup ?_ | with_reducible refine w_lst ?_ | ((with_reducible refine' w_lenR ?e ?_); case e => (first | decide | (simp only [List.length_cons, List.length_nil, Nat.zero_add, Nat.reduceAdd]; decide)))
  | with_reducible refine w_fzN ?_ | ((with_reducible refine' w_glo ?e ?_); case e => (first | assumption | rfl))
  | with_reducible refine w_sl ?_ | with_reducible refine w_ono ?_ | with_reducible refine w_opart ?_ | with_reducible refine w_intR ?_ | with_reducible refine w_strR ?_ | with_reducible refine w_tupR ?_ | with_reducible refine w_newR ?_ | ((with_reducible refine' w_optR ?e ?_); case e => rfl)
  | with_reducible refine w_mth ?_ | with_reducible refine w_comp ?_ | with_reducible refine w_seq ?_ | with_reducible refine w_rng1 ?_ | with_reducible refine w_rng2 ?_ | with_reducible refine w_rng3 ?_ | with_reducible refine w_enum ?_ | ((with_reducible refine' w_rng1R ?e ?_); case e => exact rng_ok1 (by omega) (by omega)) | ((with_reducible refine' w_rngR ?e ?_); case e => exact rng_ok2 (by omega) (by omega) (by omega) (by omega)) | ((with_reducible refine' w_rngD ?e ?_); case e => exact rng_ok2 (by omega) (by omega) (by omega) (by omega))
  | with_reducible refine w_promo ?_ | with_reducible refine w_proN ?_ | with_reducible refine w_proD ?_ | with_reducible refine w_dct ?_ | ((with_reducible refine' w_dctR ?e ?_); case e => decide)
  | with_reducible refine v_own ?_ | with_reducible refine v_any ?_ | with_reducible refine v_anyN ?_ | with_reducible refine v_anyD ?_ | with_reducible refine w_blt1 ?_ | with_reducible refine v_asgs ?_ | with_reducible refine v_setL ?_ | with_reducible refine v_setD ?_ | with_reducible refine v_setOwn ?_ | ((with_reducible refine' v_ownR ?e ?_); case e => rfl)
  | ((with_reducible refine' v_app ?e ?_); case e => rfl) | ((with_reducible refine' v_ext ?e ?_); case e => rfl) | with_reducible refine v_expr ?_ | with_reducible refine v_for ?_ | with_reducible refine v_whl ?_
  | ((with_reducible refine' v_retV ?e ?_); case e => rfl) | with_reducible refine v_retn ?_ | with_reducible refine v_pass ?_ | with_reducible refine v_brk ?_ | with_reducible refine v_cnt ?_ | ((with_reducible refine' v_frz ?e ?_); case e => rfl)
  | with_reducible refine v_contB ?_ | with_reducible refine v_contC ?_ | with_reducible refine v_retN ?_ | with_reducible refine v_endN ?_ | with_reducible refine w_compG ?_
  | ((with_reducible refine' w_varO ?e ?_); case e => rfl)
  | ((with_reducible refine' w_dgetK ?e ?q ?_); (case e => first | assumption | rfl); (case q => rfl); (try dsimp only))
  | with_reducible refine w_lenT ?_ | with_reducible refine w_lenLs ?_ | with_reducible refine w_slT ?_ | with_reducible refine w_slL ?_ | with_reducible refine w_tupN ?_ | with_reducible refine w_seqT ?_ | with_reducible refine w_seqL ?_ | with_reducible refine w_seqN ?_ | with_reducible refine w_intB ?_ | with_reducible refine w_intI ?_ | with_reducible refine w_neI ?_
  | with_reducible refine w_isi_int_non ?_ | with_reducible refine w_isi_int_bl ?_ | with_reducible refine w_isi_int_int ?_ | with_reducible refine w_isi_int_str ?_ | with_reducible refine w_isi_int_tup ?_ | with_reducible refine w_isi_int_lst ?_ | with_reducible refine w_isi_bool_non ?_ | with_reducible refine w_isi_bool_bl ?_ | with_reducible refine w_isi_bool_int ?_ | with_reducible refine w_isi_bool_str ?_ | with_reducible refine w_isi_bool_tup ?_ | with_reducible refine w_isi_bool_lst ?_ | with_reducible refine w_isi_str_non ?_ | with_reducible refine w_isi_str_bl ?_ | with_reducible refine w_isi_str_int ?_ | with_reducible refine w_isi_str_str ?_ | with_reducible refine w_isi_str_tup ?_ | with_reducible refine w_isi_str_lst ?_ | with_reducible refine w_isi_tuple_non ?_ | with_reducible refine w_isi_tuple_bl ?_ | with_reducible refine w_isi_tuple_int ?_ | with_reducible refine w_isi_tuple_str ?_ | with_reducible refine w_isi_tuple_tup ?_ | with_reducible refine w_isi_tuple_lst ?_ | with_reducible refine w_isi_list_non ?_ | with_reducible refine w_isi_list_bl ?_ | with_reducible refine w_isi_list_int ?_ | with_reducible refine w_isi_list_str ?_ | with_reducible refine w_isi_list_tup ?_ | with_reducible refine w_isi_list_lst ?_
  | with_reducible refine w_lrng1 ?_ | with_reducible refine w_lrng2 ?_ | ((with_reducible refine' w_lrngR ?e ?_); case e => (refine ⟨?_, ?_, ?_, ?_, ?_⟩ <;> omega)) | with_reducible refine w_lrngR2 ?_ | with_reducible refine w_max2 ?_ | with_reducible refine w_min2 ?_ | with_reducible refine w_zip ?_ | with_reducible refine w_zipT ?_ | with_reducible refine w_zipL ?_ | with_reducible refine w_zipLN ?_
  | with_reducible refine w_fnv ?_ | with_reducible refine w_isx ?_ | with_reducible refine w_attr ?_ | ((with_reducible refine' w_attrR ?e ?_); case e => rfl) | ((with_reducible refine' w_callv ?e ?_); case e => rfl) | with_reducible refine w_told ?_ | with_reducible refine v_raise ?_
  | ((with_reducible refine' w_ixT ?e ?_); case e => rfl)
  | ((with_reducible refine' w_brd ?e ?_); case e => omega)
  | ((with_reducible refine' w_brn ?e ?_); case e => omega)
  | ((with_reducible refine' w_brnd ?e ?_); case e => omega)
  | ((with_reducible refine' w_brnn ?e ?_); case e => omega)
  | ((with_reducible refine' w_brp ?e ?_); case e => assumption)
  | ((with_reducible refine' w_brq ?e ?_); case e => assumption)))

section
theorem W2 : WT2 T G where
  whole := T_is_whole
  among := T_is_among
  leaf := T_is_leaf
  size := T_size_within
  worth := T_is_worth
  gLeaf := G_MOST_LEAF
  gThings := G_MOST_THINGS
  gSize := G_MOST_SIZE
  gDeep := G_MOST_DEEP
  worths := T_are_worths
  endless := T_is_endless
  thing := T_is_thing
  gStem := G_MOST_STEM
  gSmall := G_MOST_SMALL
  gEndless := G_ENDLESS
theorem W3 : WT3 T G where
  goes := T_goes_on
  least := T_least_round
  leaned := T_leaned
  gEnd := G_ENDLESS
end
section
variable {n : Nat} {h : Hh} {m ci li : Nat} {b : Int} {d : D}
theorem need_ex (s : Sn h 8 d) (t : thingD d = false) : run T G (n + 14) "need_thing" [d] h = .ex ⟨"BadThing", []⟩ h := by
  refine ev_exq (v_run T_need_thing rfl ?_)
  unfold f_need_thing b_need_thing
  simp only [Fn.env, List.map_cons, List.map_nil, Nat.reduceSub, List.replicate_succ, List.replicate_zero, List.cons_append, List.nil_append]
  walk_at "run"
  refine ev_of (thing_ok W2 s) ?_
  rw [t]
  walk_at "run"
  exact ⟨rfl, rfl⟩
theorem lean_ex (s : Sn h 8 d) (t : thingD d = false) : run T G (n + 15) "lean" [d] h = .ex ⟨"BadThing", []⟩ h := by
  refine ev_exq (v_run T_lean rfl ?_)
  unfold f_lean b_lean
  simp only [Fn.env, List.map_cons, List.map_nil, Nat.reduceSub, List.replicate_succ, List.replicate_zero, List.cons_append, List.nil_append]
  walk_at "run"
  exact ev_ofX (need_ex s t) ⟨rfl, rfl⟩
theorem lean_inf' {s a : List D} (i : IR s a) : run T G (n + 15) "lean" [endl s a] h = .ok (.dat (lnOf s a)) h := lean_run W2 W3 (r := rT) T_need_thing T_lean i
theorem things_ok {s a : List D} (i : IR s a) {N : Nat} (hN : N ≤ 1000) : run T G (n + 1) "_law_things" [endl s a, .int (N : Nat)] h = .ok (.new ((th s a N).take N)) h := by
  have hp : 0 < a.length := List.length_pos_iff.mpr i.a0
  have la := i.la
  refine ev_eq (v_run T__law_things rfl ?_)
  unfold f__law_things b__law_things
  simp only [Fn.env, List.map_cons, List.map_nil, Nat.reduceSub, List.replicate_succ, List.replicate_zero, List.cons_append, List.nil_append]
  unfold endl
  walk_at "run"
  have e : (1 : Int) + (N : Nat) / (a.length : Nat) = ((1 + N / a.length : Nat) : Int) := by simp
  rw [e]
  have d1 := Nat.div_le_self N a.length
  have d2 : a.length * (1 + N / a.length) ≤ 10 * 1001 := Nat.mul_le_mul i.la (by omega)
  have z1 : 1 + N / a.length ≤ big := le_big (by omega)
  have z2 : a.length * (1 + N / a.length) ≤ big := le_big (by omega)
  with_reducible refine w_mulTN z1 z2 ?_
  have z3 : s.length + (List.replicate (1 + N / a.length) a).flatten.length ≤ big := le_big (by rw [rep_len, Nat.mul_comm]; have := i.ls; omega)
  with_reducible refine w_addT z3 ?_
  walk_at "run"
  refine w_toLT ?_
  walk_at "run"
  refine w_slN ?_
  walk_at "run"
  rw [cut_toN]
  exact ⟨rfl, rfl⟩
theorem shortest_ok {s a : List D} (i : IR s a) (ls : s.length ≤ 60) : run T G (n + 2) "_law_shortest" [endl s a] h = .ok (.dat (lnOf s a)) h := by
  have hp : 0 < a.length := List.length_pos_iff.mpr i.a0
  have la := i.la
  refine ev_eq (v_run T__law_shortest rfl ?_)
  unfold f__law_shortest b__law_shortest
  simp only [Fn.env, List.map_cons, List.map_nil, Nat.reduceSub, List.replicate_succ, List.replicate_zero, List.cons_append, List.nil_append]
  generalize hE : endl s a = E
  walk_at "run"
  rw [← hE]
  unfold endl
  walk_at "run"
  obtain ⟨N, eN⟩ : ∃ N, N = 2 * (s.length + 2 * a.length) + 4 := ⟨_, rfl⟩
  rw [show 2 * (((s.length : Nat) : Int) + 2 * (a.length : Nat)) + 4 = ((N : Nat) : Int) by omega]
  refine ev_of (things_ok (n := n) i (N := N) (by omega)) ?_
  have tl0 := th_len (s := s) (N := N) i.a0
  have tl : ((th s a N).take N).length = N := by rw [List.length_take]; omega
  have tg : ∀ j, j < ((th s a N).take N).length → ((th s a N).take N)[j]? = strm s a j := fun j hj => by rw [List.getElem?_take_of_lt (by omega), th_get i.a0 (by omega)]
  have ts : ∀ x ∈ (th s a N).take N, smallD x = true := fun x hx => (th_mem (List.mem_of_mem_take hx)).elim (i.ss x) (i.sa x)
  generalize (th s a N).take N = t at tl tg ts
  walk_at "run"
  rw [show ((a.length : Nat) : Int) + 1 - 1 = ((a.length : Nat) : Int) by omega, Int.toNat_natCast]
  have st : D.tup [.str "endless", .tup s, .tup a] = endl s a := rfl
  rw [st]
  generalize endl s a = E2
  refine ev_for (fun j e g => g = h ∧ (∀ z', 0 < z' → z' < 1 + j → ∀ l', l' ≤ s.length → ¬ okW t z' l') ∧ ∃ s4 s5 s6, e = [.val E2, .val (.tup s), .val (.tup a), .val (.lst t), s4, s5, s6]) ⟨rfl, fun z' h1 h2 => by omega, _, _, _, rfl⟩ ?_ ?_
  · rintro j x e g hx ⟨rfl, m1, s4, s5, s6, rfl⟩
    obtain ⟨hj, rfl⟩ := rngL_get hx
    obtain ⟨z, ez⟩ : ∃ z, z = 1 + j := ⟨_, rfl⟩
    rw [← ez] at m1
    rw [show (1 : Int) + (j : Nat) = ((z : Nat) : Int) by omega, show 1 + (j + 1) = z + 1 by omega]
    refine ⟨_, rfl, ?_⟩
    walk_at "run"
    rw [show ((s.length : Nat) : Int) + 1 = ((s.length + 1 : Nat) : Int) by omega, Int.toNat_natCast]
    refine ev_for (fun l e g' => g' = g ∧ (∀ l', l' < l → ¬ okW t z l') ∧ ∃ s5 s6, e = [.val E2, .val (.tup s), .val (.tup a), .val (.lst t), .val (.int (z : Nat)), s5, s6]) ⟨rfl, fun l' h1 => by omega, _, _, rfl⟩ ?_ ?_
    · rintro l x e g' hx ⟨rfl, m2, s5, s6, rfl⟩
      obtain ⟨hl, rfl⟩ := rngL_get hx
      rw [show (0 : Int) + (l : Nat) = ((l : Nat) : Int) by omega]
      refine ⟨_, rfl, ?_⟩
      walk_at "run"
      obtain ⟨c, ec⟩ : ∃ c, c = N - z - l := ⟨_, rfl⟩
      rw [tl, show (((N : Nat) : Int) - (z : Nat) - (l : Nat)) = ((c : Nat) : Int) by omega, Int.toNat_natCast]
      let p : D → Bool := fun x => match x with | .int i => !decide (t[i.toNat]? = t[i.toNat + z]?) | _ => false
      have fact : compR (run T G (n + 1)) G [6] (.nm 6) (.cmp .ne (.blt .repr (.cons (.ix (.var 3) (.var 6)) .nil)) (.blt .repr (.cons (.ix (.var 3) (.bin .add (.var 6) (.var 4))) .nil))) (.var 6) [.val E2, .val (.tup s), .val (.tup a), .val (.lst t), .val (.int (z : Nat)), .val (.int (l : Nat)), s6] (rngL ((l : Nat) : Int) c) g'
          = .ok (.new ([] ++ ((rngL ((l : Nat) : Int) c).filter p).map id)) g' := by
        unfold compR
        refine comp_filter p id (by rw [sizeLine_eq, rngL_length]; simp only [List.length_nil]; omega) fun x hx => ?_
        obtain ⟨k, hk, rfl⟩ := rngL_mem hx
        refine ev_eq ?_
        show evX _ (compG _ _ _ _ _ g') _
        rw [show ((l : Nat) : Int) + (k : Nat) = ((l + k : Nat) : Int) by omega]
        walk_at "run"
        have h1 : l + k < t.length := by omega
        have h2 : l + k + z < t.length := by omega
        have r1 := ts _ (List.getElem_mem h1)
        have r2 := ts _ (List.getElem_mem h2)
        refine w_ixF (atI_nat' h1) ?_
        walk_at "run"
        refine w_reprD (small_tr r1).rok ?_
        walk_at "run"
        rw [show ((l + k : Nat) : Int) + (z : Nat) = ((l + k + z : Nat) : Int) by omega]
        refine w_ixF (atI_nat' h2) ?_
        walk_at "run"
        refine w_reprD (small_tr r2).rok ?_
        refine w_neSt ?_
        have w1 : ∀ {x : D}, smallD x = true → Wo 6 x := fun hx => size_wo (by have := small_worth hx; simpa [worthD] using this)
        have pe : p (.int ((l + k : Nat) : Int)) = !decide (t[l + k] = t[l + k + z]) := by
          show (!decide (t[((l + k : Nat) : Int).toNat]? = t[((l + k : Nat) : Int).toNat + z]?)) = _
          rw [Int.toNat_natCast, List.getElem?_eq_getElem h1, List.getElem?_eq_getElem h2]
          simp
        by_cases q : t[l + k] = t[l + k + z]
        · rw [q, pe, decide_eq_true q, decide_eq_true rfl, Bool.not_true]
          walk_at "run"
          exact ⟨rfl, rfl⟩
        · have q2 : ¬ rp t[l + k] = rp t[l + k + z] := fun e => q (rp_inj (w1 r1) (w1 r2) e)
          rw [pe, decide_eq_false q, decide_eq_false q2, Bool.not_false]
          walk_at "run"
          exact ⟨rfl, rfl⟩
      refine ev_of fact ?_
      rw [List.nil_append, List.map_id]
      walk_at "run"
      have hpl : ∀ x ∈ (rngL ((l : Nat) : Int) c).filter p, Pl 59 x := fun x hx => by
        obtain ⟨k, hk, rfl⟩ := rngL_mem (List.mem_filter.mp hx).1
        exact .int
      refine w_eqP (x := .new _) (y := .new []) (Pl.lst hpl) (Pl.lst (by simp)) ?_
      have okI : okW t z l ↔ (rngL ((l : Nat) : Int) c).filter p = [] := by
        rw [List.filter_eq_nil_iff]
        constructor
        · intro w x hx
          obtain ⟨k, hk, rfl⟩ := rngL_mem hx
          have := w (l + k) (by omega) (by omega)
          show ¬ (!decide (t[(((l : Nat) : Int) + (k : Nat)).toNat]? = t[(((l : Nat) : Int) + (k : Nat)).toNat + z]?)) = true
          rw [show (((l : Nat) : Int) + (k : Nat)).toNat = l + k by omega, decide_eq_true this]
          simp
        · intro w k h1 h2
          have hm : D.int (((l : Nat) : Int) + ((k - l : Nat) : Int)) ∈ rngL ((l : Nat) : Int) c := List.mem_map.mpr ⟨k - l, List.mem_range.mpr (by omega), rfl⟩
          have := w _ hm
          have this : ¬ (!decide (t[(((l : Nat) : Int) + ((k - l : Nat) : Int)).toNat]? = t[(((l : Nat) : Int) + ((k - l : Nat) : Int)).toNat + z]?)) = true := this
          rw [show (((l : Nat) : Int) + ((k - l : Nat) : Int)).toNat = k by omega] at this
          simpa using this
      by_cases q : okW t z l
      · rw [okI.mp q, decide_eq_true rfl]
        walk_at "run"
        rw [cut_toN, show ((l : Nat) : Int) + (z : Nat) = ((l + z : Nat) : Int) by omega, cut_midN (by omega), show l + z - l = z by omega]
        refine ⟨?_, rfl⟩
        have := okW_lean i.a0 tg (z := z) (l := l) (by omega) (by omega) (by omega) (by omega) q m1 m2
        unfold lnOf endl
        rw [this]
      · have q2 : ¬ (rngL ((l : Nat) : Int) c).filter p = [] := fun e => q (okI.mpr e)
        rw [decide_eq_false (by simpa [R.d] using q2)]
        walk_at "run"
        refine ⟨rfl, fun l' h1 w => ?_, _, _, rfl⟩
        by_cases e : l' = l
        · subst e; exact q w
        · exact m2 l' (by omega) w
    · rintro e g' ⟨rfl, m2, s5, s6, rfl⟩
      rw [rngL_length] at m2
      walk_at "run"
      refine ⟨rfl, fun z' h1 h2 l' h3 w => ?_, _, _, _, rfl⟩
      by_cases e : z' = z
      · subst e; exact m2 l' (by omega) w
      · exact m1 z' h1 (by omega) l' h3 w
  · rintro e g ⟨rfl, m1, s4, s5, s6, rfl⟩
    rw [rngL_length] at m1
    exact absurd (okW_self tg) (m1 a.length hp (by omega) s.length (Nat.le_refl _))
theorem longer_ok (d : Dr h m ci li b) (hb : b < 2 ^ 56) {s a : List D} (i : IR s a) (ls : s.length ≤ 40) :
    ev (run T G (n + 3) "_law_longer" [.ref m, endl s a] h) fun x h' => ∃ s' a', x = .dat (endl s' a') ∧ IR s' a' ∧ s'.length ≤ s.length + 4 ∧ strm s' a' = strm s a ∧ Dr h' m ci li (b + 10) ∧ Kp m li h h' := by
  refine v_run T__law_longer rfl ?_
  unfold f__law_longer b__law_longer
  simp only [Fn.env, List.map_cons, List.map_nil, Nat.reduceSub, List.replicate_succ, List.replicate_zero, List.cons_append, List.nil_append]
  generalize hE : endl s a = E
  walk_at "run"
  rw [← hE]
  unfold endl
  walk_at "run"
  rw [show D.tup [.str "endless", .tup s, .tup a] = E from hE]
  refine ev_mono (draw_ok (n := n) T__law_mixed T__law_draw d (by omega) (by decide) (by decide)) ?_
  rintro x h1 ⟨x, rfl, x0, x1, d1, k1⟩
  walk_at "run"
  refine ev_for (fun j e g => g = h1 ∧ j ≤ x.toNat ∧ ∃ s' a' s4, e = [.val (.ref m), .val E, .val (.tup s'), .val (.tup a'), s4] ∧ s'.length = s.length + j ∧ a'.length = a.length ∧ IR s' a' ∧ strm s' a' = strm s a)
    ⟨rfl, Nat.zero_le _, s, a, _, rfl, rfl, rfl, i, rfl⟩ ?_ ?_
  · rintro j y e g hy ⟨rfl, hj, s', a', s4, rfl, e1, e2, i', e3⟩
    obtain ⟨hj2, rfl⟩ := rngL_get hy
    have hp : 0 < a'.length := List.length_pos_iff.mpr i'.a0
    have la' := i'.la
    refine ⟨_, rfl, ?_⟩
    walk_at "run"
    rw [cut_to (by omega)]
    have z : s'.length + (a'.take (1 : Int).toNat).length ≤ big := le_big (by rw [List.length_take]; omega)
    with_reducible refine w_addT z ?_
    walk_at "run"
    rw [cut_from (by omega), cut_to (by omega)]
    have z : (a'.drop (1 : Int).toNat).length + (a'.take (1 : Int).toNat).length ≤ big := le_big (by rw [List.length_take, List.length_drop]; omega)
    with_reducible refine w_addT z ?_
    walk_at "run"
    have l1 : (a'.drop 1 ++ a'.take 1).length = a'.length := by rw [List.length_append, List.length_take, List.length_drop]; omega
    have l2 : (s' ++ a'.take 1).length = s'.length + 1 := by rw [List.length_append, List.length_take]; omega
    refine ⟨rfl, by omega, s' ++ a'.take 1, a'.drop 1 ++ a'.take 1, _, rfl, by rw [l2]; omega, by rw [l1, e2], ⟨by rw [l2]; omega, by rw [l1]; omega, fun z => by rw [z] at l1; simp at l1; omega, fun y hy => ?_, fun y hy => ?_⟩, by rw [strm_step i'.a0, e3]⟩
    · rcases List.mem_append.mp hy with w | w
      · exact i'.ss y w
      · exact i'.sa y (List.mem_of_mem_take w)
    · rcases List.mem_append.mp hy with w | w
      · exact i'.sa y (List.mem_of_mem_drop w)
      · exact i'.sa y (List.mem_of_mem_take w)
  · rintro e g ⟨rfl, hj, s', a', s4, rfl, e1, e2, i', e3⟩
    rw [rngL_length] at hj e1
    have hp : 0 < a'.length := List.length_pos_iff.mpr i'.a0
    have la' := i'.la
    walk_at "run"
    have eq : (10 : Int) / ((a'.length : Nat) : Int) = ((10 / a'.length : Nat) : Int) := by simp
    have q1 : 1 ≤ 10 / a'.length := (Nat.le_div_iff_mul_le hp).mpr (by omega)
    have q2 : 10 / a'.length ≤ 10 := Nat.div_le_self _ _
    rw [eq]
    refine ev_mono (draw_ok (n := n) T__law_mixed T__law_draw d1 (by omega) (by omega) (by omega)) ?_
    rintro y h2 ⟨y, rfl, y0, y1, d2, k2⟩
    walk_at "run"
    obtain ⟨k, ek⟩ : ∃ k : Nat, k = 1 + y.toNat := ⟨_, rfl⟩
    rw [show (1 : Int) + y = ((k : Nat) : Int) by omega]
    have hk : k ≤ 10 / a'.length := by omega
    have hk2 : k * a'.length ≤ 10 := (Nat.le_div_iff_mul_le hp).mp hk
    have z1 : k ≤ big := le_big (by omega)
    have z2 : a'.length * k ≤ big := le_big (by rw [Nat.mul_comm]; omega)
    with_reducible refine w_mulTN z1 z2 ?_
    walk_at "run"
    have l1 : (List.replicate k a').flatten.length = k * a'.length := rep_len k
    have k0 : 0 < k * a'.length := Nat.mul_pos (by omega) hp
    refine ⟨s', (List.replicate k a').flatten, rfl, ⟨i'.ls, by omega, fun z => by rw [z] at l1; simp only [List.length_nil] at l1; omega, i'.ss, fun x hx => i'.sa x (mem_rep hx)⟩, by omega, by rw [strm_cyc (cyc_rep (by omega) i'.a0), e3], d2.mono (by omega), k1.trans k2⟩
theorem told_ex {X : Exc → Hh → Prop} {r : Res R} {k w : Str} {Q : R → Hh → Prop} (e : r = .ex ⟨k, []⟩ h) (hk : (k, w) ∈ words) (p : Q (.dat (.tup [.str w])) h) :
    evX (fun x h1 => evX noX (run T G (n + 2) "_law_field" [.sp true x.cls x.fs] h1) Q) r fun r h1 => evX X (fzR r fun d => .ok (.new [d]) h1) Q := by
  rw [e]
  show evX noX (run T G (n + 2) "_law_field" [.sp true _ []] h) Q
  exact ev_of (field_ok T__law_class T__law_field hk) p
theorem pl_one {s : Str} (h : PyData.strOk s = true) : Pl 60 (.tup [.str s]) := Pl.le (Pl.tup (k := 1) (by simp; exact .str h)) (by omega)
/-- one of the looks behind a turn: what its twin is told -/
def lookd (e : D) : Prop := Pl 8 e ∧ Wide 8 e ∧ Tr 8 60000 e
theorem far_lean : leaned (List.replicate 59 (D.int 0) ++ [.int 1]) (List.replicate 5 [D.int 0, .int 1]).flatten = (List.replicate 58 (D.int 0), [.int 0, .int 1]) := by
  have n0 : [D.int 0, .int 1] ≠ [] := by simp
  have n1 : (List.replicate 5 [D.int 0, .int 1]).flatten ≠ [] := by simp [List.replicate_succ]
  have lean : isLean (List.replicate 58 (D.int 0)) [D.int 0, .int 1] := by
    refine ⟨n0, fun m hm => ?_, .inr ?_⟩
    · obtain ⟨q1, q2, q3, q4⟩ := hm
      have q2 : m < 2 := q2
      have : m = 1 := by omega
      subst this
      simp [List.replicate_succ] at q4
    · rw [List.getLast?_replicate]; simp
  rw [← leaned_self lean]
  refine leaned_eq n1 n0 ?_
  have e : List.replicate 59 (D.int 0) ++ [.int 1] = List.replicate 58 (D.int 0) ++ [.int 0, .int 1] := by rw [List.replicate_succ' (n := 58), List.append_assoc]; rfl
  rw [strm_cyc (cyc_rep (by omega) n0), e, strm_again n0]
theorem far_ir : IR (List.replicate 59 (D.int 0) ++ [.int 1]) (List.replicate 5 [D.int 0, .int 1]).flatten := by
  refine ⟨by simp, by simp, by simp [List.replicate_succ], fun x hx => ?_, fun x hx => ?_⟩
  · rcases List.mem_append.mp hx with q | q
    · rw [List.eq_of_mem_replicate q]; decide +kernel
    · rw [List.mem_singleton.mp q]; decide +kernel
  · have := mem_rep hx
    simp only [List.mem_cons, List.not_mem_nil, or_false] at this
    rcases this with rfl | rfl <;> decide +kernel
theorem rep_one {k : Nat} {x : D} : (List.replicate k [x]).flatten = List.replicate k x := by
  induction k with
  | zero => rfl
  | succ k ih => rw [List.replicate_succ, List.flatten_cons, ih, List.replicate_succ]; rfl
theorem far_ok {g : Hh} : run T G (n + 15) "lean" [endl (List.replicate 59 (D.int 0) ++ [.int 1]) (List.replicate 5 [D.int 0, .int 1]).flatten] g = .ok (.dat (endl (List.replicate 58 (D.int 0)) [.int 0, .int 1])) g := by
  rw [lean_inf' far_ir]
  unfold lnOf
  rw [far_lean]
theorem far_rok : Rok (endl (List.replicate 58 (D.int 0)) [.int 0, .int 1]) := by
  have fi := far_ir.lean
  rw [far_lean] at fi
  have fo : (Row.inf (List.replicate 58 (D.int 0)) [.int 0, .int 1]).ok := fi
  exact fo.tr.rok
def odd (L : Nat) : List D := [.non, .str "x", .bl true, .lst [.str "endless", .tup [], .tup [.int 1]], .tup [.str "endless", .tup [], .tup []], .tup [.str "endless", .lst [], .tup [.int 1]], .int 100, .ref L]
theorem odd_all {L : Nat} (hL : L < h.length) : ∀ x ∈ odd L, Sn h 8 x ∧ thingD x = false := by
  intro x hx
  unfold odd at hx
  simp only [List.mem_cons, List.not_mem_nil, or_false] at hx
  rcases hx with rfl | rfl | rfl | rfl | rfl | rfl | rfl | rfl
  · exact ⟨rfl, by decide +kernel⟩
  · exact ⟨(by decide +kernel : PyData.strOk "x" = true), by decide +kernel⟩
  · exact ⟨rfl, by decide +kernel⟩
  · exact ⟨rfl, by decide +kernel⟩
  · exact ⟨Sn.of_pl (j := 2) (by simp [Pl, strOk_endless]), by decide +kernel⟩
  · exact ⟨Sn.of_pl (j := 2) (by simp [Pl, strOk_endless]), by decide +kernel⟩
  · exact ⟨rfl, by decide +kernel⟩
  · exact ⟨by show seen h (.ref L) = true; simp [seen, hL], rfl⟩
def rest : Ss := (.cons (.asg 9 (.tup (.cons (.con (.str "endless")) (.cons (.bin .add (.bin .mul (.tup (.cons (.con (.int 0)) .nil)) (.con (.int 59))) (.tup (.cons (.con (.int 1)) .nil))) (.cons (.bin .mul (.tup (.cons (.con (.int 0)) (.cons (.con (.int 1)) .nil))) (.con (.int 5))) .nil))))) (.cons (.ifs (.cmp .ne (.blt .repr (.cons (.call "lean" (.cons (.var 9) .nil)) .nil)) (.blt .repr (.cons (.tup (.cons (.con (.str "endless")) (.cons (.bin .mul (.tup (.cons (.con (.int 0)) .nil)) (.con (.int 58))) (.cons (.tup (.cons (.con (.int 0)) (.cons (.con (.int 1)) .nil))) .nil)))) .nil))) (.cons (.ret (.con (.bl false))) .nil) .nil) (.cons (.asg 8 (.lst (.cons (.con .non) (.cons (.con (.str "x")) (.cons (.con (.bl true)) (.cons (.lst (.cons (.con (.str "endless")) (.cons (.tup .nil) (.cons (.tup (.cons (.con (.int 1)) .nil)) .nil)))) (.cons (.tup (.cons (.con (.str "endless")) (.cons (.tup .nil) (.cons (.tup .nil) .nil)))) (.cons (.tup (.cons (.con (.str "endless")) (.cons (.lst .nil) (.cons (.tup (.cons (.con (.int 1)) .nil)) .nil)))) (.cons (.con (.int 100)) (.cons (.dct [] .nil) .nil)))))))))) (.cons (.ret (.cmp .eq (.comp [10] (.nm 10) (.seq (.var 8)) (.con (.bl true)) (.told "_law_field" (.call "lean" (.cons (.var 10) .nil)))) (.bin .mul (.lst (.cons (.tup (.cons (.con (.str "thing")) .nil)) .nil)) (.con (.int 8))))) .nil))))
section
variable {C : Calls'} (hC : C = run T G 29)
theorem odds_ok (hC : C = run T G 29) {ods : List D} {sc e : D} {s2 s3 s4 s5 s6 s7 : Slot} (od : ∀ x ∈ ods, Sn h 8 x ∧ thingD x = false) (l8 : ods.length = 8) : compR C G [10] (.nm 10) (.con (.bl true)) (.told "_law_field" (.call "lean" (.cons (.var 10) .nil))) [.val sc, .val (.ref 2), s2, s3, s4, s5, s6, s7, .val (.lst ods), .val e, .un] ods h
    = .ok (.new (ods.map fun _ => .tup [.str "thing"])) h := by
  unfold compR
  rw [comp_map (fun _ => .tup [.str "thing"]) (by rw [sizeLine_eq, l8]; decide) fun x hx => ?_]
  · rw [List.nil_append]
  · obtain ⟨sx, tx⟩ := od x hx
    refine ev_eq ?_
    show evX _ (compG _ _ _ _ _ h) _
    walk_at "run"
    subst hC
    refine told_ex (n := 27) (k := "BadThing") (w := "thing") (lean_ex (n := 14) sx tx) (by decide +kernel) ?_
    walk_at "run"
    exact ⟨rfl, rfl⟩
theorem end_ok (hC : C = run T G 29) {g : Hh} {sc : D} {s2 s3 s4 s5 s6 s7 s8 : Slot} : ev (execSs C G rest [.val sc, .val (.ref 2), s2, s3, s4, s5, s6, s7, s8, .un, .un] g) (endQ fun r _ => r = .dat (.bl true)) := by
  have e1 := far_ok (n := 14) (g := g)
  rw [← hC] at e1
  have rk := far_rok
  unfold rest
  walk_at "run"
  rw [show (59 : Int) = ((59 : Nat) : Int) from rfl]
  with_reducible refine w_mulTN (le_big (by omega)) (le_big (by simp only [List.length_cons, List.length_nil]; omega)) ?_
  walk_at "run"
  rw [rep_one]
  have l59 : (List.replicate 59 (D.int 0)).length = 59 := List.length_replicate
  generalize List.replicate 59 (D.int 0) = P at e1 l59 ⊢
  have z : P.length + [D.int 1].length ≤ big := le_big (by simp only [List.length_cons, List.length_nil]; omega)
  with_reducible refine w_addT z ?_
  generalize P ++ [D.int 1] = S at e1 ⊢
  walk_at "run"
  rw [show (5 : Int) = ((5 : Nat) : Int) from rfl]
  with_reducible refine w_mulTN (le_big (by omega)) (le_big (by simp only [List.length_cons, List.length_nil]; omega)) ?_
  generalize (List.replicate 5 [D.int 0, .int 1]).flatten = A at e1 ⊢
  walk_at "run"
  generalize hE : D.tup [.str "endless", .tup S, .tup A] = E
  have e1 : C "lean" [E] g = .ok (.dat (endl (List.replicate 58 (D.int 0)) [.int 0, .int 1])) g := by rw [← hE]; exact e1
  refine ev_of e1 ?_
  have e8 : endl (List.replicate 58 (D.int 0)) [.int 0, .int 1] = D.tup [.str "endless", .tup (List.replicate 58 (D.int 0)), .tup [.int 0, .int 1]] := rfl
  rw [e8] at rk ⊢
  have r58 : (List.replicate 58 [D.int 0]).flatten = List.replicate 58 (D.int 0) := rep_one
  generalize List.replicate 58 (D.int 0) = P8 at rk r58 ⊢
  walk_at "run"
  refine w_reprD rk ?_
  walk_at "run"
  rw [show (58 : Int) = ((58 : Nat) : Int) from rfl]
  with_reducible refine w_mulTN (le_big (by omega)) (le_big (by simp only [List.length_cons, List.length_nil]; omega)) ?_
  rw [r58]
  walk_at "run"
  refine w_reprD rk ?_
  refine w_neSsame rfl ?_
  walk_at "run"
  have hL : g.length < (g ++ [O.dct (([] : List Key).zip ([] : List D))]).length := by rw [List.length_append]; simp
  generalize g ++ [O.dct (([] : List Key).zip ([] : List D))] = h2 at hL ⊢
  have od := odd_all (h := h2) hL
  have l8 : (odd g.length).length = 8 := rfl
  have fact := odds_ok hC (s2 := s2) (s3 := s3) (s4 := s4) (s5 := s5) (s6 := s6) (s7 := s7) (sc := sc) (e := E) od l8
  refine ev_of fact ?_
  generalize odd g.length = ods at l8 ⊢
  walk_at "run"
  rw [show (8 : Int) = ((8 : Nat) : Int) from rfl]
  with_reducible refine w_mulLN (le_big (by omega)) (le_big (by simp only [List.length_cons, List.length_nil]; omega)) ?_
  have eq : (ods.map fun _ => D.tup [.str "thing"]) = (List.replicate 8 [D.tup [.str "thing"]]).flatten := by rw [rep_one, List.map_const', l8]
  rw [eq]
  have pl : Pl 60 (.lst (List.replicate 8 [D.tup [.str "thing"]]).flatten) := Pl.le (Pl.lst (k := 59) fun z hz => by
    rw [List.mem_singleton.mp (mem_rep hz)]
    exact Pl.le (Pl.tup (k := 1) (by simp; exact .str (by decide +kernel))) (by omega)) (by omega)
  generalize (List.replicate 8 [D.tup [.str "thing"]]).flatten = eight at pl ⊢
  refine w_eqP (x := .new eight) (y := .new eight) pl pl ?_
  rw [decide_eq_true rfl]
  walk_at "run"
  rfl
theorem end_all (hC : C = run T G 29) {e : Env'} {g : Hh} {sc : D} (z : ∃ s2 s3 s4 s5 s6 s7 s8 : Slot, e = [.val sc, .val (.ref 2), s2, s3, s4, s5, s6, s7, s8, .un, .un]) :
    contFX noX (endQ fun r _ => r = .dat (.bl true)) (fun env' h' => execSs C G rest env' h') (.nx e) g := by
  obtain ⟨s2, s3, s4, s5, s6, s7, s8, rfl⟩ := z
  with_reducible refine v_contN ?_
  exact end_ok hC
end
theorem law_ok {ns : List Int} (hn : ns.length ≤ 63) : ev (run T G 30 "law" [scriptD ns] []) fun r _ => r = .dat (.bl true) := by
  refine v_run T_law rfl ?_
  unfold f_law b_law
  simp only [Fn.env, List.map_cons, List.map_nil, Nat.reduceSub, List.replicate_succ, List.replicate_zero, List.cons_append, List.nil_append]
  generalize hS : scriptD ns = sc
  walk_at "run"
  subst hS
  refine ev_mono (begun_ok (n := 27) T__law_folded T__law_begun hn) ?_
  rintro r h1 ⟨rfl, hl, d0⟩
  generalize scriptD ns = sc
  walk_at "run"
  refine ev_for (fun i e g => i ≤ 16 ∧ Dr g 2 0 3 (20000 * (i : Nat)) ∧ ∃ s2 s3 s4 s5 s6 s7 s8, e = [.val sc, .val (.ref 2), s2, s3, s4, s5, s6, s7, s8, .un, .un]) ⟨by omega, by simpa using d0, _, _, _, _, _, _, _, rfl⟩ ?_ ?_
  · rintro i x e g hx ⟨hi0, d2, s2, s3, s4, s5, s6, s7, s8, rfl⟩
    obtain ⟨hi, rfl⟩ := rngL_get hx
    have hi : i < 16 := hi
    refine ⟨_, rfl, ?_⟩
    walk_at "run"
    refine ev_mono (dendless_ok (n := 24) (many := 4) T__law_mixed T__law_draw T__law_leaf T__law_row T__law_endless d2 (by omega) (by omega)) ?_
    rintro r g2 ⟨sA, rA, rfl, b1, b2, iA, d3, _⟩
    walk_at "run"
    refine ev_mono (longer_ok (n := 26) d3 (by omega) iA (by omega)) ?_
    rintro r g3 ⟨s, a, rfl, iB, c1, c2, d4, _⟩
    walk_at "run"
    refine ev_of (shortest_ok (n := 27) iB (by omega)) ?_
    walk_at "run"
    have iL := iB.lean
    have lL : leaned (leaned s a).1 (leaned s a).2 = leaned s a := leaned_self (leaned_ok (s := s) iB.a0).1
    have lnL : lnOf (leaned s a).1 (leaned s a).2 = lnOf s a := by unfold lnOf; rw [lL]
    have okL : (Row.inf (leaned s a).1 (leaned s a).2).ok := iL
    have trL : Tr 8 60000 (lnOf s a) := okL.tr
    refine ev_for (fun j e g' => g' = g3 ∧ ∃ s5, e = [.val sc, .val (.ref 2), .val (.int (0 + (i : Nat))), .val (endl s a), .val (lnOf s a), s5, s6, s7, s8, .un, .un]) ⟨rfl, _, rfl⟩ ?_ ?_
    · rintro j x e g' hx ⟨rfl, s5, rfl⟩
      refine ⟨_, rfl, ?_⟩
      walk_at "run"
      refine ev_of (lean_inf' (n := 14) iB) ?_
      walk_at "run"
      refine w_reprD trL.rok ?_
      walk_at "run"
      refine w_reprD trL.rok ?_
      refine w_neSsame rfl ?_
      walk_at "run"
      have e1 := lean_inf' (n := 14) (h := g') iL
      rw [lnL] at e1
      refine ev_of e1 ?_
      walk_at "run"
      refine w_reprD trL.rok ?_
      walk_at "run"
      refine w_reprD trL.rok ?_
      refine w_neSsame rfl ?_
      walk_at "run"
      refine ev_of (endless_ok (n := 17) (d := lnOf s a) W2 (Sn.of_pl (okL.pl))) ?_
      rw [show endlessD (lnOf s a) = true from ir_iff.mpr iL]
      walk_at "run"
      exact ⟨rfl, _, rfl⟩
    · rintro e g' ⟨rfl, s5, rfl⟩
      walk_at "run"
      have lsL := (leaned_ok (s := s) iB.a0).2.2.1
      refine ev_mono (longer_ok (n := 26) (s := (leaned s a).1) (a := (leaned s a).2) d4 (by omega) iL (by omega)) ?_
      rintro r g4 ⟨s', a', rfl, iC, f1, f2, d5, _⟩
      walk_at "run"
      have e2 : lnOf s' a' = lnOf s a := by
        unfold lnOf
        rw [leaned_eq iC.a0 iB.a0 (by rw [f2]; exact (leaned_ok (s := s) iB.a0).2.1)]
      have e1 := lean_inf' (n := 14) (h := g4) iC
      rw [e2] at e1
      refine ev_of e1 ?_
      walk_at "run"
      refine w_reprD trL.rok ?_
      walk_at "run"
      refine w_reprD trL.rok ?_
      refine w_neSsame rfl ?_
      walk_at "run"
      have lt := d5.lt
      refine ev_mono (dworth_ok (n := 20) T__law_mixed T__law_draw T__law_leaf T__law_worth (rr := g4.length) (m := 2) (ci := 0) (li := 3) (by omega) (by omega) (by omega) 5 (room := 30) (d5.more [.lst [.int 30]]) (by show _ + 15624 < _; omega) (by simp) (by omega) (by omega)) ?_
      rintro r g5 ⟨w, room', rfl, k1, k2, k3, d6, _⟩
      have d6 : Dr g5 2 0 3 (20000 * (i : Nat) + 500 + 10 + 10 + 15624) := d6
      have ww : worthD w = true := by simpa [worthD] using k1
      walk_at "run"
      refine ev_of (lean_run' (n := 14) W2 W3 (r := rT) T_need_thing T_lean ww) ?_
      walk_at "run"
      refine w_reprD (worth_tr ww).rok ?_
      walk_at "run"
      refine w_reprD (worth_tr ww).rok ?_
      refine w_neSsame rfl ?_
      walk_at "run"
      have okB : (Row.inf s a).ok := iB
      have gd : ∀ e ∈ [lnOf s a, w, endl s a], lookd e := by
        intro e he
        simp only [List.mem_cons, List.not_mem_nil, or_false] at he
        rcases he with rfl | rfl | rfl
        · exact ⟨okL.pl, okL.wide, trL⟩
        · exact ⟨(worth_pl ww).le (by omega), Wide.le (size_wide k1) (size_pl 6 _ k1) (by omega), (worth_tr ww).le⟩
        · exact ⟨okB.pl, okB.wide, okB.tr⟩
      generalize hE : endl s a = E at gd ⊢
      generalize hL : lnOf s a = L at gd ⊢
      generalize [L, w, E] = looks at gd ⊢
      refine ev_for (fun j e g' => g' = g5 ∧ ∃ s7 s8, e = [.val sc, .val (.ref 2), .val (.int (0 + (i : Nat))), .val E, .val L, s5, .val w, s7, s8, .un, .un]) ⟨rfl, _, _, rfl⟩ ?_ ?_
      · rintro j x e g' hx ⟨rfl, s7, s8, rfl⟩
        obtain ⟨p, wd, tr⟩ := gd x (List.mem_of_getElem? hx)
        refine ⟨_, rfl, ?_⟩
        walk_at "run"
        refine ev_of (twin_ok T__law_twin 8 20 x p wd) ?_
        walk_at "run"
        refine w_reprD (twin_tr p tr).rok ?_
        walk_at "run"
        refine w_reprD tr.rok ?_
        refine w_neSt ?_
        by_cases q : rp (twinW 8 x) = rp x
        · rw [decide_eq_true q, Bool.not_true]
          walk_at "run"
          exact ⟨rfl, _, _, rfl⟩
        · rw [decide_eq_false q, Bool.not_false]
          have nt : twinW 8 x ≠ x := fun z => q (by rw [z])
          walk_at "run"
          refine told_ex (n := 27) (k := "BadThing") (w := "thing") (lean_ex (n := 14) (twin_sn p) (twin_thing p nt)) (by decide +kernel) ?_
          walk_at "run"
          refine w_neSame rfl (pl_one (by decide +kernel)) ?_
          walk_at "run"
          exact ⟨rfl, _, _, rfl⟩
      · rintro e g' ⟨rfl, s7, s8, rfl⟩
        walk_at "run"
        exact ⟨by omega, d6.mono (by omega), _, _, _, _, _, _, _, rfl⟩
  · intro e g z
    obtain ⟨_, _, hz⟩ := z
    exact end_all rfl hz
end
def level : Nat := 30
theorem run_law : ∀ ns : List Int, ns.length ≤ 63 → ∃ h', run T G level "law" [scriptD ns] [] = .ok (.dat (.bl true)) h' := fun ns hn => by
  obtain ⟨a, h', e, rfl⟩ := ev_iff.mp (law_ok hn)
  exact ⟨h', e⟩
end K04
end Mi
open PySem PySem.W PyProof.Rows
set_option maxHeartbeats 0 in
theorem PySem.Challenge.cw_waysfold_k04_lean_rows_holds : PySem.Challenge.rw_waysfold_k04_lean_rows.Holds := by
  w_on; o_law; k_head; (case hw => w_witness2)
  k_fill
  letI : Mi.Tb := ⟨Mi.tabsOf Mi.K04.lams⟩
  refine Mi.walkG (l := PySem.Challenge.rw_waysfold_k04_lean_rows) (n := 63) (k := Mi.K04.level) (T := Mi.K04.T) (G := Mi.K04.G) (bs := Mi.K04.bs) rfl (by decide) rfl ⟨rfl, by decide, by decide⟩ (fun w h Y => PySem.W.km_in_of Y) (fun w h Y => PySem.W.km_tabs_of Y) (fun w => rfl) (fun w => by kernel_rfl) ?F (e := Mi.K04.f_law) Mi.K04.T_law Mi.K04.run_law
  case F =>
    intro w mg h KX G
    refine' Mi.K04.all_mk KX G ?a0 ?l0 ?c0 ?k0 ?a1 ?l1 ?c1 ?k1 ?a2 ?l2 ?c2 ?k2 ?a3 ?l3 ?c3 ?k3 ?a4 ?l4 ?c4 ?k4 ?a5 ?l5 ?c5 ?k5 ?a6 ?l6 ?c6 ?k6 ?a7 ?l7 ?c7 ?k7 ?a8 ?l8 ?c8 ?k8 ?a9 ?l9 ?c9 ?k9 ?a10 ?l10 ?c10 ?k10 ?a11 ?l11 ?c11 ?k11 ?a12 ?l12 ?c12 ?k12 ?a13 ?l13 ?c13 ?k13 ?a14 ?l14 ?c14 ?k14 ?a15 ?l15 ?c15 ?k15 ?a16 ?l16 ?c16 ?k16 ?a17 ?l17 ?c17 ?k17 ?a18 ?l18 ?c18 ?k18 ?a19 ?l19 ?c19 ?k19 ?a20 ?l20 ?c20 ?k20 ?a21 ?l21 ?c21 ?k21 ?a22 ?l22 ?c22 ?k22 ?a23 ?l23 ?c23 ?k23 ?a24 ?l24 ?c24 ?k24 ?a25 ?l25 ?c25 ?k25 ?a26 ?l26 ?c26 ?k26 ?a27 ?l27 ?c27 ?k27 ?a28 ?l28 ?c28 ?k28 ?g0a ?g0k ?g1a ?g1k ?g2a ?g2k ?g3a ?g3k ?g4a ?g4k ?g5a ?g5k ?g6a ?g6k ?z0 ?z1 ?z2 ?z3 ?z4 ?z5 ?z6 ?z7 ?z8 ?z9 ?z10 ?z11 ?xo ?hTb ?ap
    (case a0 => k_is); (case l0 => k_is); (case c0 => k_is); (case k0 => k_is); (case a1 => k_is); (case l1 => k_is); (case c1 => k_is); (case k1 => k_is); (case a2 => k_is); (case l2 => k_is); (case c2 => k_is); (case k2 => k_is); (case a3 => k_is); (case l3 => k_is); (case c3 => k_is); (case k3 => k_is); (case a4 => k_is); (case l4 => k_is); (case c4 => k_is); (case k4 => k_is); (case a5 => k_is); (case l5 => k_is); (case c5 => k_is); (case k5 => k_is); (case a6 => k_is); (case l6 => k_is); (case c6 => k_is); (case k6 => k_is); (case a7 => k_is); (case l7 => k_is); (case c7 => k_is); (case k7 => k_is); (case a8 => k_is); (case l8 => k_is); (case c8 => k_is); (case k8 => k_is); (case a9 => k_is); (case l9 => k_is); (case c9 => k_is); (case k9 => k_is); (case a10 => k_is); (case l10 => k_is); (case c10 => k_is); (case k10 => k_is); (case a11 => k_is); (case l11 => k_is); (case c11 => k_is); (case k11 => k_is); (case a12 => k_is); (case l12 => k_is); (case c12 => k_is); (case k12 => k_is); (case a13 => k_is); (case l13 => k_is); (case c13 => k_is); (case k13 => k_is); (case a14 => k_is); (case l14 => k_is); (case c14 => k_is); (case k14 => k_is); (case a15 => k_is); (case l15 => k_is); (case c15 => k_is); (case k15 => k_is); (case a16 => k_is); (case l16 => k_is); (case c16 => k_is); (case k16 => k_is); (case a17 => k_is); (case l17 => k_is); (case c17 => k_is); (case k17 => k_is); (case a18 => k_is); (case l18 => k_is); (case c18 => k_is); (case k18 => k_is); (case a19 => k_is); (case l19 => k_is); (case c19 => k_is); (case k19 => k_is); (case a20 => k_is); (case l20 => k_is); (case c20 => k_is); (case k20 => k_is); (case a21 => k_is); (case l21 => k_is); (case c21 => k_is); (case k21 => k_is); (case a22 => k_is); (case l22 => k_is); (case c22 => k_is); (case k22 => k_is); (case a23 => k_is); (case l23 => k_is); (case c23 => k_is); (case k23 => k_is); (case a24 => k_is); (case l24 => k_is); (case c24 => k_is); (case k24 => k_is); (case a25 => k_is); (case l25 => k_is); (case c25 => k_is); (case k25 => k_is); (case a26 => k_is); (case l26 => k_is); (case c26 => k_is); (case k26 => k_is); (case a27 => k_is); (case l27 => k_is); (case c27 => k_is); (case k27 => k_is); (case a28 => k_is); (case l28 => k_is); (case c28 => k_is); (case k28 => k_is); (case g0a => k_is); (case g0k => rfl); (case g1a => k_is); (case g1k => rfl); (case g2a => k_is); (case g2k => rfl); (case g3a => k_is); (case g3k => rfl); (case g4a => k_is); (case g4k => rfl); (case g5a => k_is); (case g5k => rfl); (case g6a => k_is); (case g6k => rfl); (case z0 => k_is); (case z1 => k_is); (case z2 => k_is); (case z3 => k_is); (case z4 => k_is); (case z5 => k_is); (case z6 => k_is); (case z7 => k_is); (case z8 => k_is); (case z9 => k_is); (case z10 => k_is); (case z11 => k_is); (case xo => kernel_rfl); (case hTb => rfl); (case ap => kernel_rfl)
