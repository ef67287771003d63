import PyProof.Rows.All
import Wide.All
import OpenK.AllK
import Wide.FinOn
import HandS.ForMost
import HandS.IsInst
import HandS.SortInts
import HandS.TupAny
import HandS.Zip
import HandS.Strs
import HandS.Style
import HandS.Walk
import HandS.SetFor
import HandS.Evl
import PySem.Challenge.RW_wetfolds_k51_whole_lists_of_washing_ring
set_option Elab.async false
set_option linter.all false
section
set_option maxRecDepth 100000
namespace Wet
open PySem L2
/-! ## The text by places; what the top has written -/
def top (i : Nat) : Stmt := PySem.Challenge.pw_wetfolds_k51_whole_lists_of_washing_ring.main.body.getD i (.Pass ⟨0, 0, 0, 0⟩)
/-- the built-in names that the text leaves as they are, and its constants -/
structure Bt (mg : Str → Option Value) : Prop where
  isinstance : mg "isinstance" = none
  bool : mg "bool" = none
  int : mg "int" = none
  tuple : mg "tuple" = none
  list : mg "list" = none
  len : mg "len" = none
  all : mg "all" = none
  abs : mg "abs" = none
  zip : mg "zip" = none
  sorted : mg "sorted" = none
  set : mg "set" = none
  sum : mg "sum" = none
  dict : mg "dict" = none
  range : mg "range" = none
  min : mg "min" = none
  max : mg "max" = none
  CREASE : ∃ t, mg "CREASE" = some (.int 1000000 t)
  FOLDS : ∃ t, mg "FOLDS" = some (.int 12 t)
  LARGEST : ∃ t, mg "LARGEST" = some (.int 1000000 t)
/-- a def of the text that stands under its name and keeps a promise -/
structure Df (P : Program) (w : World) (K : PySem.W.Frag) (mg : Str → Option Value) (base : Heap) (x : Str) (k : Nat) (ps : List Str) (sp : Sp) : Prop where
  ex : ∃ (f : Addr) (fd : FuncData), FnOk P w K mg base CX0 k f fd ps sp ∧ mg x = some (.ref f) ∧ PySem.W.keepIn K (.ref f) = true ∧ Binds K fd ps []
def tDf (sp : Sp) (t : TA) : TE := fun σ H Q => t σ H fun vs H1 => sp vs H1 Q E0
theorem pe_df {X : Cx} {x : Str} {k : Nat} {ps : List Str} {sp : Sp} {e : Expr} {es : List Expr} {t : TA} {p pos : Pos} (C : Df X.prog X.w X.K X.mg X.base x k ps sp) (hr : Room k X.A) (hg : Gl X x) (ha : PA X (e :: es) t)
    (hs : starEach (e :: es) X.env = (false, eval e X.env) :: starEach es X.env := by rfl) (hpl : (backTo pos (starEach es X.env)).any (·.1) = false := by rfl)
    (hd : (x == ("__debug__" : Str)) = false := by decide) : PE X (.Call (.Name x p) (e :: es) [] pos) (tDf sp t) := by
  obtain ⟨f, fd, F, hm, hk, hb⟩ := C.ex
  have h : PE X (.Call (.Name x p) (e :: es) [] pos) (tCall sp [] E0 t) := pe_call F hr hg hm hk hb .nil pass0 ha hd hs hpl
  have e1 : tCall sp [] E0 t = tDf sp t := by
    unfold tCall tDf
    funext σ H Q
    congr 1
    funext vs H1
    rw [List.append_nil]
  rw [← e1]
  exact h
/-- a def's promise by its FnOk -/
theorem Df.mk' {P : Program} {w : World} {K : PySem.W.Frag} {mg : Str → Option Value} {base : Heap} {x : Str} {k : Nat} {ps : List Str} {sp : Sp} {f : Addr} {fd : FuncData} (F : FnOk P w K mg base CX0 k f fd ps sp) (hm : mg x = some (.ref f))
    (hk : PySem.W.keepIn K (.ref f) = true) (hb : Binds K fd ps []) : Df P w K mg base x k ps sp := ⟨⟨f, fd, F, hm, hk, hb⟩⟩

theorem same_new {H H' : Hp} {p : Addr} {o : HO} (e : Same H H') (h : H p = none) : Same H (upd H' p o) := fun a u ha => by
  rw [upd_ne (ne_of_none ha h)]
  exact e a u ha
theorem same_new' {H H' : Hp} {p : Addr} {o : HO} (e : Same H H') (h : H' p = none) : Same H (upd H' p o) := same_new e (e.free h)
theorem same_t {K : PySem.W.Frag} {H H' : Hp} {a : Addr} {xs : List V} (e : Same H H') (h : SqT K H a xs) : SqT K H' a xs := by
  rcases h with (h | ⟨o, h⟩) | h
  · exact .inl (.inl (e _ _ h))
  · exact .inl (.inr ⟨o, e _ _ h⟩)
  · exact .inr h
theorem sz (n : Nat) (h : n ≤ 10000 := by decide) : n ≤ sizeLine := Nat.le_trans h (by decide)
theorem szl {n : Nat} (h : n < 10000) : n < sizeLine := Nat.lt_of_lt_of_le h (by decide)
theorem szle {n : Nat} (h : n ≤ 10000) : n ≤ sizeLine := Nat.le_trans h (by decide)
/-- a comprehension without a test -/
theorem yes_ok {σ : L2.St} {H : Hp} {A B : Hp → Prop} (h : A H) : tYes σ H (fun b H3 => if b = true then A H3 else B H3) := by
  show (if true = true then A H else B H)
  exact iteT h
/-- abs, int, by names -/
def rAbs : List V → Hp → VK → Prop := fun xs H Q => ∃ i, xs = [.int i] ∧ Q (.int (if i < 0 then -i else i)) H
theorem call_abs1 {X : Cx} : CallR X (.builtin "abs") rAbs := call_abs
def rInt1 : List V → Hp → VK → Prop := fun xs H Q => (∃ i, xs = [.int i] ∧ Q (.int i) H) ∨ ∃ k, xs = [.bl k] ∧ Q (.int (if k then 1 else 0)) H
theorem call_int2 {X : Cx} : CallR X (.type "int") rInt1 := call_int1
/-- an if by its test, known -/
theorem ifT {c A B : Prop} [Decidable c] (hc : c) (h : A) : if c then A else B := by rw [if_pos hc]; exact h
theorem ifF {c A B : Prop} [Decidable c] (hc : ¬ c) (h : B) : if c then A else B := by rw [if_neg hc]; exact h

section
variable {P : Program} {w : World} {K : PySem.W.Frag} {mg : Str → Option Value} {base : Heap}
/-! ## strips -/
abbrev s_is_whole : Stmt := top 7
abbrev n_is_whole : List Str := ["value", "low", "high"]
abbrev p_is_whole : List Str := ["value", "low", "high"]
theorem sc_is_whole : FnScope n_is_whole p_is_whole (defScope s_is_whole) := ⟨rfl, rfl, rfl, by decide +kernel, rfl, by decide +kernel, by decide +kernel⟩
def sp_is_whole : Sp := fun vs H Q _ => ∃ v lo hi : Int, vs = [.int v, .int lo, .int hi] ∧ lo ≤ v ∧ v ≤ hi ∧ Q (.bl true) H
theorem ok_is_whole {f : Addr} {fd : FuncData} (F : Fun K "is_whole" "is_whole" s_is_whole f fd) (T : Bt mg) : FnOk P w K mg base CX0 1 f fd p_is_whole sp_is_whole := by
  refine F.ok sc_is_whole (fun vs H Q E h => ?_) (fun cdv A outer s H vs Q E hr h => ?_)
  · obtain ⟨v, lo, hi, rfl, _⟩ := h
    rfl
  · obtain ⟨v, lo, hi, rfl, h1, h2, k⟩ := h
    refine ⟨_, (pss_one (ps_ret (pe_and (pe_callB call_isi (by rfl) T.isinstance PyProof.Rows.boot_isinstance (pa_cons (pv 0) (pa_cons (pe_bltn (v := .ty "int") (by rfl) T.int PyProof.Rows.boot_int rfl) pa_nil))) (pe_and (pe_not (pe_callB call_isi (by rfl) T.isinstance PyProof.Rows.boot_isinstance (pa_cons (pv 0) (pa_cons (pe_bltn (v := .ty "bool") (by rfl) T.bool PyProof.Rows.boot_bool rfl) pa_nil)))) (pe_one (pe_chain op_le op_le (pv 1) (pv 0) (pv 2))))))), ?_⟩
    refine ⟨_, rfl, _, _, _, _, true, rfl, .ty "int", .base (.int v), kit_ty (by decide +kernel), true, rfl, iteT ?_⟩
    refine ⟨_, rfl, _, _, _, _, false, rfl, .ty "bool", .base (.int v), kit_ty (by decide +kernel), false, rfl, true, rfl, iteT ?_⟩
    refine ⟨_, rfl, _, rfl, _, _, rfl, rfl, true, congrArg V.bl (decide_eq_true h1), iteT ?_⟩
    refine ⟨_, rfl, _, _, rfl, rfl, ?_⟩
    show Q (V.bl (decide (v ≤ hi))) H
    rw [decide_eq_true h2]
    exact k
end
end Wet
end
section
namespace Wet
/-! ### parity functions on the integers, and the step that lays a moved copy to one -/
abbrev Fn := Int → Bool
def T (s : Int) (g : Fn) : Fn := fun x => xor (g x) (g (x - s))
def Z : Fn := fun _ => false
def Per (s : Int) (g : Fn) : Prop := ∀ x, g (x - s) = g x
def It (m : Int) : Nat → Fn → Fn
  | 0, g => g
  | k + 1, g => T m (It m k g)
def Tl : List Int → Fn → Fn
  | [], g => g
  | s :: r, g => Tl r (T s g)

theorem T_comm (s t : Int) (g : Fn) : T s (T t g) = T t (T s g) := by
  funext x
  unfold T
  have e : x - s - t = x - t - s := by omega
  rw [e]
  cases g x <;> cases g (x - t) <;> cases g (x - s) <;> cases g (x - t - s) <;> rfl
theorem T_Z (s : Int) : T s Z = Z := by funext x; rfl
theorem T_zero_iff (s : Int) (g : Fn) : T s g = Z ↔ Per s g := by
  constructor
  · intro h x
    have := congrFun h x
    unfold T Z at this
    revert this
    cases g x <;> cases g (x - s) <;> simp
  · intro h
    funext x
    unfold T Z
    rw [h x]
    cases g x <;> rfl
theorem T_T (s : Int) (g : Fn) : T s (T s g) = T (s + s) g := by
  funext x
  unfold T
  have e : x - s - s = x - (s + s) := by omega
  rw [e]
  cases g x <;> cases g (x - s) <;> cases g (x - (s + s)) <;> rfl
theorem It_T (m s : Int) (k : Nat) (g : Fn) : It m k (T s g) = T s (It m k g) := by
  induction k with
  | zero => rfl
  | succ k ih => show T m (It m k (T s g)) = T s (T m (It m k g)); rw [ih, T_comm]
theorem It_Z (m : Int) (k : Nat) : It m k Z = Z := by
  induction k with
  | zero => rfl
  | succ k ih => show T m (It m k Z) = Z; rw [ih, T_Z]
theorem It_add (m : Int) (j k : Nat) (g : Fn) : It m (j + k) g = It m j (It m k g) := by
  induction j with
  | zero => rw [Nat.zero_add]; rfl
  | succ j ih => rw [Nat.succ_add]; show T m (It m (j + k) g) = T m (It m j (It m k g)); rw [ih]
theorem It_pow (m : Int) (a : Nat) (g : Fn) : It m (2 ^ a) g = T (m * 2 ^ a) g := by
  induction a generalizing g with
  | zero => show T m g = T (m * 1) g; rw [Int.mul_one]
  | succ a ih =>
    have e : 2 ^ (a + 1) = 2 ^ a + 2 ^ a := by rw [Nat.pow_succ]; omega
    rw [e, It_add, ih, ih, T_T, Int.pow_succ]
    congr 1
    rw [← Int.mul_add]
    congr 1
    omega
theorem Tl_T (l : List Int) (s : Int) (g : Fn) : Tl l (T s g) = T s (Tl l g) := by
  induction l generalizing g with
  | nil => rfl
  | cons t r ih => show Tl r (T t (T s g)) = T s (Tl r (T t g)); rw [T_comm, ih]
theorem Tl_Z (l : List Int) : Tl l Z = Z := by
  induction l with
  | nil => rfl
  | cons t r ih => show Tl r (T t Z) = Z; rw [T_Z, ih]
theorem Tl_Tl (l k : List Int) (g : Fn) : Tl l (Tl k g) = Tl k (Tl l g) := by
  induction k generalizing g with
  | nil => rfl
  | cons t r ih => show Tl l (Tl r (T t g)) = Tl r (T t (Tl l g)); rw [ih, Tl_T]
theorem Tl_append (l k : List Int) (g : Fn) : Tl (l ++ k) g = Tl k (Tl l g) := by
  induction l generalizing g with
  | nil => rfl
  | cons t r ih => exact ih _
theorem It_Tl (m : Int) (j : Nat) (l : List Int) (g : Fn) : It m j (Tl l g) = Tl l (It m j g) := by
  induction l generalizing g with
  | nil => rfl
  | cons t r ih => show It m j (Tl r (T t g)) = Tl r (T t (It m j g)); rw [ih, It_T]

/-! ### periods -/
theorem Per.nat_mul {s : Int} {g : Fn} (h : Per s g) (k : Nat) : Per (s * k) g := by
  induction k with
  | zero => intro x; simp
  | succ k ih =>
    intro x
    have e : x - s * ((k + 1 : Nat) : Int) = (x - s * k) - s := by
      rw [Int.natCast_add, Int.mul_add]; simp; omega
    rw [e, h, ih]
theorem Per.neg {s : Int} {g : Fn} (h : Per s g) : Per (-s) g := by
  intro x
  have := h (x - -s)
  have e : x - -s - s = x := by omega
  rw [e] at this
  exact this.symm
theorem Per.mul {s : Int} {g : Fn} (h : Per s g) (k : Int) : Per (s * k) g := by
  rcases Int.le_total 0 k with c | c
  · obtain ⟨n, rfl⟩ := Int.eq_ofNat_of_zero_le c
    exact h.nat_mul n
  · obtain ⟨n, hn⟩ := Int.eq_ofNat_of_zero_le (show 0 ≤ -k by omega)
    have := (h.nat_mul n).neg
    have e : -(s * (n : Int)) = s * k := by
      rw [← hn, ← Int.mul_neg, Int.neg_neg]
    rwa [e] at this
theorem Per.dvd {a s : Int} {g : Fn} (h : Per a g) (d : a ∣ s) : Per s g := by
  obtain ⟨k, rfl⟩ := d
  exact h.mul k
theorem Per.add {a b : Int} {g : Fn} (h : Per a g) (k : Per b g) : Per (a + b) g := by
  intro x
  have e : x - (a + b) = (x - a) - b := by omega
  rw [e, k, h]
theorem Per.gcd (m n : Nat) {g : Fn} : Per (m : Int) g → Per (n : Int) g → Per ((Nat.gcd m n : Nat) : Int) g := by
  induction m, n using Nat.gcd.induction with
  | H0 n => intro _ h; rwa [Nat.gcd_zero_left]
  | H1 m n _ ih =>
    intro hm hn
    rw [Nat.gcd_rec]
    refine ih ?_ hm
    have e : ((n % m : Nat) : Int) = (n : Int) + (m : Int) * (-(n / m : Nat) : Int) := by
      have := Nat.mod_add_div n m
      have h2 : ((n % m + m * (n / m) : Nat) : Int) = (n : Int) := by rw [this]
      rw [Int.natCast_add, Int.natCast_mul] at h2
      rw [Int.mul_neg]
      omega
    rw [e]
    exact hn.add (hm.mul _)
theorem per_abs {s : Int} {g : Fn} (h : Per s g) : Per ((s.natAbs : Nat) : Int) g := by
  rcases Int.natAbs_eq s with e | e
  · rwa [← e]
  · have := h.neg
    rw [e] at this
    rwa [Int.neg_neg] at this

/-! ### sufficiency -/
def Wt : List (Int × Nat) → Nat
  | [] => 0
  | p :: r => p.2 + Wt r
theorem suff {m : Int} : ∀ (l : List (Int × Nat)) (h : Fn) (k : Nat), (∀ p ∈ l, p.2 = 0 ∨ ∃ a, p.2 = 2 ^ a ∧ m * 2 ^ a ∣ p.1) → It m (k + Wt l) h = Z → It m k (Tl (l.map (·.1)) h) = Z
  | [], h, k, _, e => e
  | p :: r, h, k, hp, e => by
    refine suff r (T p.1 h) k (fun q hq => hp q (List.mem_cons_of_mem _ hq)) ?_
    rw [It_T]
    rcases hp p List.mem_cons_self with z | ⟨a, ha, hd⟩
    · have e' : It m (k + Wt r) h = Z := by
        have : k + Wt (p :: r) = k + Wt r := by show k + (p.2 + Wt r) = _; omega
        rwa [this] at e
      rw [e', T_Z]
    · have e' : k + Wt (p :: r) = 2 ^ a + (k + Wt r) := by show k + (p.2 + Wt r) = _; omega
      rw [e', It_add, It_pow] at e
      exact (T_zero_iff _ _).mpr (((T_zero_iff _ _).mp e).dvd hd)

/-! ### necessity -/
def Ks (q : Int) : Nat → Fn → Fn
  | 0, _ => Z
  | k + 1, g => fun x => xor (Ks q k g x) (g (x - q * k))
theorem Ks_T (q s : Int) (k : Nat) (g : Fn) : Ks q k (T s g) = T s (Ks q k g) := by
  induction k with
  | zero => funext x; rfl
  | succ k ih =>
    funext x
    show xor (Ks q k (T s g) x) (xor (g (x - q * k)) (g (x - q * k - s))) = xor (xor (Ks q k g x) (g (x - q * k))) (xor (Ks q k g (x - s)) (g (x - s - q * k)))
    rw [ih]
    have e : x - q * k - s = x - s - q * k := by omega
    rw [e]
    unfold T
    cases Ks q k g x <;> cases Ks q k g (x - s) <;> cases g (x - q * k) <;> cases g (x - s - q * k) <;> rfl
theorem Ks_self (q : Int) (k : Nat) (g : Fn) (x : Int) : Ks q k (T q g) x = xor (g x) (g (x - q * k)) := by
  induction k with
  | zero =>
    have e : x - q * ((0 : Nat) : Int) = x := by simp
    show false = _
    rw [e]; cases g x <;> rfl
  | succ k ih =>
    show xor (Ks q k (T q g) x) (xor (g (x - q * k)) (g (x - q * k - q))) = _
    rw [ih]
    have e : x - q * k - q = x - q * ((k + 1 : Nat) : Int) := by
      rw [Int.natCast_add, Int.mul_add]; simp; omega
    rw [e]
    cases g x <;> cases g (x - q * k) <;> cases g (x - q * ((k + 1 : Nat) : Int)) <;> rfl
theorem Ks_per {q : Int} {g : Fn} (h : Per q g) (k : Nat) (x : Int) : Ks q k g x = (decide (k % 2 = 1) && g x) := by
  induction k with
  | zero => rfl
  | succ k ih =>
    show xor (Ks q k g x) (g (x - q * k)) = _
    rw [ih, (h.nat_mul k) x]
    rcases Nat.mod_two_eq_zero_or_one k with c | c
    · have c' : (k + 1) % 2 = 1 := by omega
      simp [c, c']
    · have c' : (k + 1) % 2 = 0 := by omega
      simp [c, c']
theorem Ks_add (q : Int) (j k : Nat) (g : Fn) (x : Int) : Ks q (j + k) g x = xor (Ks q j g x) (Ks q k g (x - q * j)) := by
  induction k with
  | zero => show Ks q j g x = xor (Ks q j g x) false; cases Ks q j g x <;> rfl
  | succ k ih =>
    show xor (Ks q (j + k) g x) (g (x - q * ((j + k : Nat) : Int))) = xor (Ks q j g x) (xor (Ks q k g (x - q * j)) (g (x - q * j - q * k)))
    rw [ih]
    have e : x - q * ((j + k : Nat) : Int) = x - q * j - q * k := by
      rw [Int.natCast_add, Int.mul_add]; omega
    rw [e]
    cases Ks q j g x <;> cases Ks q k g (x - q * j) <;> cases g (x - q * j - q * k) <;> rfl
theorem It_Ks (m : Int) (a : Nat) (g : Fn) : It m (2 ^ a - 1) g = Ks m (2 ^ a) g := by
  induction a with
  | zero => funext x; show g x = xor false (g (x - m * 0)); simp
  | succ a ih =>
    have p : 0 < 2 ^ a := Nat.two_pow_pos a
    have e : 2 ^ (a + 1) - 1 = 2 ^ a + (2 ^ a - 1) := by rw [Nat.pow_succ]; omega
    have e2 : 2 ^ (a + 1) = 2 ^ a + 2 ^ a := by rw [Nat.pow_succ]; omega
    rw [e, It_add, ih, It_pow, e2]
    funext x
    rw [Ks_add]
    show xor (Ks m (2 ^ a) g x) (Ks m (2 ^ a) g (x - m * 2 ^ a)) = xor (Ks m (2 ^ a) g x) (Ks m (2 ^ a) g (x - m * ((2 ^ a : Nat) : Int)))
    have e3 : (((2 ^ a : Nat)) : Int) = (2 : Int) ^ a := by simp
    rw [e3]
/-- the functions that a ring of n places has, killed at each of the primes -/
structure Kil (n : Int) (P : List Nat) (g : Fn) : Prop where
  per : Per n g
  kill : ∀ p ∈ P, Ks (n / p) p g = Z
theorem Kil.T {n : Int} {P : List Nat} {g : Fn} (h : Kil n P g) (s : Int) : Kil n P (T s g) := by
  refine ⟨?_, fun p hp => ?_⟩
  · rw [← T_zero_iff, T_comm, (T_zero_iff _ _).mpr h.per, T_Z]
  · rw [Ks_T, h.kill p hp, T_Z]
theorem Kil.It {n : Int} {P : List Nat} {g : Fn} (h : Kil n P g) (s : Int) (k : Nat) : Kil n P (It s k g) := by
  induction k with
  | zero => exact h
  | succ k ih => exact ih.T s
def dlt (n : Int) : Fn := fun x => decide (x % n = 0)
theorem dlt_per (n : Int) : Per n (dlt n) := by
  intro x
  unfold dlt
  rw [Int.sub_emod_right]
/-- what is asked of a size n = m * 2 ^ e and its primes -/
structure Good (n m e : Nat) (P : List Nat) : Prop where
  n0 : 0 < n
  nm : n = m * 2 ^ e
  odd : ∀ p ∈ P, p % 2 = 1 ∧ 0 < p ∧ p * (n / p) = n
  cov : ∀ d, d ∣ n → ¬ m ∣ d → ∃ p ∈ P, d ∣ n / p
  one : Tl (P.map fun p => ((n / p : Nat) : Int)) (Ks m (2 ^ e) (dlt n)) 0 = true
theorem Kil_start {n m e : Nat} {P : List Nat} (G : Good n m e P) : ∀ (g : Fn), Per (n : Int) g → Kil n P (Tl (P.map fun p => ((n / p : Nat) : Int)) g) := by
  intro g hg
  have per : ∀ (l : List Int) (g : Fn), Per (n : Int) g → Per (n : Int) (Tl l g) := by
    intro l
    induction l with
    | nil => intro g h; exact h
    | cons s r ih =>
      intro g h
      refine ih _ ?_
      rw [← T_zero_iff, T_comm, (T_zero_iff _ _).mpr h, T_Z]
  refine ⟨per _ _ hg, fun p hp => ?_⟩
  obtain ⟨h1, h2, h3⟩ := G.odd p hp
  have e0 : (n : Int) / (p : Int) = ((n / p : Nat) : Int) := by simp
  rw [e0]
  have hm : ((n / p : Nat) : Int) ∈ P.map fun p => ((n / p : Nat) : Int) := List.mem_map_of_mem (f := fun p => ((n / p : Nat) : Int)) hp
  obtain ⟨a, b, hab⟩ := List.append_of_mem hm
  rw [hab, Tl_append]
  show Ks _ p (Tl b (T ((n / p : Nat) : Int) (Tl a g))) = Z
  rw [Tl_T]
  funext x
  rw [Ks_self]
  have pg : Per (n : Int) (Tl b (Tl a g)) := per _ _ (per _ _ hg)
  have e1 : ((n / p : Nat) : Int) * (p : Int) = (n : Int) := by
    rw [← Int.natCast_mul, Nat.mul_comm, h3]
  rw [e1, pg x]
  show xor _ _ = false
  cases Tl b (Tl a g) x <;> rfl
theorem strip {n m e : Nat} {P : List Nat} (G : Good n m e P) : ∀ (l : List (Int × Nat)) (h : Fn), Kil n P h →
    (∀ p ∈ l, (p.2 = 0 ∧ ¬ (m : Int) ∣ p.1) ∨ ∃ (a c : Nat), p.2 = 2 ^ a ∧ p.1.natAbs = m * 2 ^ a * c ∧ c % 2 = 1) → Tl (l.map (·.1)) h = Z → It m (Wt l) h = Z
  | [], h, _, _, z0 => z0
  | p :: r, h, hv, hp, z0 => by
    have ih := strip G r (T p.1 h) (hv.T p.1) (fun q hq => hp q (List.mem_cons_of_mem _ hq)) z0
    rw [It_T] at ih
    have vu : Kil n P (It m (Wt r) h) := hv.It m (Wt r)
    have pu := (T_zero_iff _ _).mp ih
    have pg : Per ((Nat.gcd p.1.natAbs n : Nat) : Int) (It m (Wt r) h) := Per.gcd _ _ (per_abs pu) vu.per
    rcases hp p List.mem_cons_self with ⟨z, nd⟩ | ⟨a, c, ha, hs, hc⟩
    · show It m (p.2 + Wt r) h = Z
      rw [z, Nat.zero_add]
      have nd' : ¬ m ∣ Nat.gcd p.1.natAbs n := fun hh => nd (Int.ofNat_dvd_left.mpr (Nat.dvd_trans hh (Nat.gcd_dvd_left _ _)))
      obtain ⟨q, hq, hd⟩ := G.cov _ (Nat.gcd_dvd_right p.1.natAbs n) nd'
      obtain ⟨h1, h2, h3⟩ := G.odd q hq
      have pq : Per ((n / q : Nat) : Int) (It m (Wt r) h) := pg.dvd (Int.natCast_dvd_natCast.mpr hd)
      have kz := vu.kill q hq
      have e0 : (n : Int) / (q : Int) = ((n / q : Nat) : Int) := by simp
      rw [e0] at kz
      funext x
      have := congrFun kz x
      rw [Ks_per pq] at this
      simpa [h1] using this
    · show It m (p.2 + Wt r) h = Z
      rw [ha, It_add, It_pow, T_zero_iff]
      have ed : Nat.gcd p.1.natAbs n ∣ m * 2 ^ a := by
        rw [hs, G.nm, Nat.mul_assoc, Nat.gcd_mul_left]
        refine Nat.mul_dvd_mul_left m ?_
        have c1 : Nat.Coprime (Nat.gcd (2 ^ a * c) (2 ^ e)) c := by
          refine Nat.Coprime.coprime_dvd_left (Nat.gcd_dvd_right _ _) ?_
          refine Nat.Coprime.pow_left e ?_
          show Nat.gcd 2 c = 1
          rw [Nat.gcd_rec, hc]; rfl
        exact Nat.Coprime.dvd_of_dvd_mul_right c1 (Nat.gcd_dvd_left _ _)
      have e4 : ((m : Int)) * 2 ^ a = ((m * 2 ^ a : Nat) : Int) := by simp
      rw [e4]
      exact pg.dvd (Int.natCast_dvd_natCast.mpr ed)
theorem nece {n m e : Nat} {P : List Nat} (G : Good n m e P) (l : List (Int × Nat))
    (hl : ∀ p ∈ l, (p.2 = 0 ∧ ¬ (m : Int) ∣ p.1) ∨ ∃ (a c : Nat), p.2 = 2 ^ a ∧ p.1.natAbs = m * 2 ^ a * c ∧ c % 2 = 1) (h : Tl (l.map (·.1)) (dlt n) = Z) : 2 ^ e ≤ Wt l := by
  refine Nat.le_of_not_lt fun lt => ?_
  have v := Kil_start G (dlt n) (dlt_per n)
  have s := strip G l _ v hl (by rw [Tl_Tl, h, Tl_Z])
  have k : 2 ^ e - 1 = (2 ^ e - 1 - Wt l) + Wt l := by omega
  have s2 : It m (2 ^ e - 1) (Tl (P.map fun p => ((n / p : Nat) : Int)) (dlt n)) = Z := by
    rw [k, It_add, s, It_Z]
  rw [It_Tl, It_Ks] at s2
  have := G.one
  rw [s2] at this
  exact Bool.noConfusion this
theorem suffi {n m e : Nat} (nm : n = m * 2 ^ e) (l : List (Int × Nat)) (hl : ∀ p ∈ l, p.2 = 0 ∨ ∃ a, p.2 = 2 ^ a ∧ (m : Int) * 2 ^ a ∣ p.1) (h : 2 ^ e ≤ Wt l) : Tl (l.map (·.1)) (dlt n) = Z := by
  have := suff (m := m) l (dlt n) 0 hl (by
    have k : 0 + Wt l = (Wt l - 2 ^ e) + 2 ^ e := by omega
    rw [k, It_add, It_pow]
    have e4 : ((m : Int)) * 2 ^ e = (n : Int) := by rw [nm]; simp
    rw [e4, (T_zero_iff _ _).mpr (dlt_per n), It_Z])
  exact this
end Wet
end
section
namespace Wet
/-! ### sorting -/
def ins (x : Int) : List Int → List Int
  | [] => [x]
  | y :: r => if x ≤ y then x :: y :: r else y :: ins x r
def isort : List Int → List Int
  | [] => []
  | x :: r => ins x (isort r)
theorem ins_perm (x : Int) : ∀ l : List Int, (ins x l).Perm (x :: l)
  | [] => .refl _
  | y :: r => by
    unfold ins
    split
    · exact .refl _
    · exact ((ins_perm x r).cons y).trans (.swap x y r)
theorem isort_perm : ∀ l : List Int, (isort l).Perm l
  | [] => .refl _
  | x :: r => (ins_perm x _).trans ((isort_perm r).cons x)
theorem ins_le (x : Int) : ∀ l : List Int, l.Pairwise (· ≤ ·) → (ins x l).Pairwise (· ≤ ·)
  | [], _ => by unfold ins; exact List.pairwise_singleton _ _
  | y :: r, h => by
    obtain ⟨h1, h2⟩ := List.pairwise_cons.mp h
    unfold ins
    split
    · rename_i c
      refine List.pairwise_cons.mpr ⟨fun z hz => ?_, h⟩
      rcases List.mem_cons.mp hz with e | e
      · rw [e]; exact c
      · exact Int.le_trans c (h1 z e)
    · rename_i c
      refine List.pairwise_cons.mpr ⟨fun z hz => ?_, ins_le x r h2⟩
      rcases List.mem_cons.mp ((ins_perm x r).mem_iff.mp hz) with e | e
      · rw [e]; omega
      · exact h1 z e
theorem isort_le : ∀ l : List Int, (isort l).Pairwise (· ≤ ·)
  | [] => List.Pairwise.nil
  | x :: r => ins_le x _ (isort_le r)
theorem isort_unique {l k : List Int} (p : k.Perm l) (s : k.Pairwise (· ≤ ·)) : k = isort l :=
  List.Perm.eq_of_pairwise (le := (· ≤ ·)) (fun a b _ _ h1 h2 => Int.le_antisymm h1 h2) s (isort_le l) (p.trans (isort_perm l).symm)
theorem isort_congr {l k : List Int} (p : k.Perm l) : isort k = isort l := isort_unique ((isort_perm k).trans p) (isort_le k)
/-! ### the steps of a row -/
def dif (a b : Int) : Int := if a - b < 0 then -(a - b) else a - b
theorem dif_comm (a b : Int) : dif a b = dif b a := by unfold dif; split <;> split <;> omega
theorem dif_nonneg (a b : Int) : 0 ≤ dif a b := by unfold dif; split <;> omega
def diffs (fs : List Int) : List Int := (fs.zip (fs.drop 1)).map fun p => dif p.1 p.2
theorem diffs_cons (a b : Int) (r : List Int) : diffs (a :: b :: r) = dif a b :: diffs (b :: r) := rfl
theorem diffs_length (fs : List Int) : (diffs fs).length = fs.length - 1 := by unfold diffs; simp
theorem diffs_nonneg (fs : List Int) : ∀ s ∈ diffs fs, 0 ≤ s := by
  intro s hs
  unfold diffs at hs
  obtain ⟨p, _, rfl⟩ := List.mem_map.mp hs
  exact dif_nonneg _ _
def steps (fs : List Int) : List Int := isort (diffs fs)
theorem steps_length (fs : List Int) : (steps fs).length = fs.length - 1 := by unfold steps; rw [(isort_perm _).length_eq, diffs_length]
theorem steps_nonneg (fs : List Int) : ∀ s ∈ steps fs, 0 ≤ s := fun s hs => diffs_nonneg fs s ((isort_perm _).mem_iff.mp hs)
end Wet
end
section
namespace Wet
/-! ### the twos of an integer -/
def IsTwos (n t : Int) : Prop := ∃ a : Nat, t = 2 ^ a ∧ t ∣ n ∧ ¬ (2 * t) ∣ n
theorem two_pow_pos (a : Nat) : (0 : Int) < 2 ^ a := by
  induction a with
  | zero => decide
  | succ a ih => rw [Int.pow_succ]; omega
theorem two_pow_dvd {a b : Nat} (h : a ≤ b) : (2 : Int) ^ a ∣ 2 ^ b := by
  refine ⟨2 ^ (b - a), ?_⟩
  rw [← Int.pow_add]
  congr 1
  omega
theorem IsTwos.unique {n t u : Int} (h : IsTwos n t) (k : IsTwos n u) : t = u := by
  obtain ⟨a, rfl, h1, h2⟩ := h
  obtain ⟨b, rfl, k1, k2⟩ := k
  have key : ∀ a b : Nat, (2 : Int) ^ b ∣ n → ¬ (2 * 2 ^ a) ∣ n → ¬ a < b := by
    intro a b k1 h2 lt
    apply h2
    refine Int.dvd_trans ?_ k1
    have := two_pow_dvd (show a + 1 ≤ b from lt)
    rw [Int.pow_succ, Int.mul_comm] at this
    exact this
  have e : a = b := by
    have x := key a b k1 h2
    have y := key b a h1 k2
    omega
  rw [e]
def twosGo (n : Int) : Nat → Int → Int
  | 0, f => f
  | k + 1, f => if n % (2 * f) = 0 then twosGo n k (2 * f) else f
theorem twosGo_ok {n : Int} (hn : 0 < n) : ∀ (k a : Nat) (f : Int), f = 2 ^ a → f ∣ n → n < f + k → IsTwos n (twosGo n k f)
  | 0, a, f, hf, hd, hl => by
    have := Int.le_of_dvd hn hd
    omega
  | k + 1, a, f, hf, hd, hl => by
    unfold twosGo
    have fp : 0 < f := by rw [hf]; exact two_pow_pos a
    split
    · rename_i c
      refine twosGo_ok hn k (a + 1) (2 * f) (by rw [hf, Int.pow_succ, Int.mul_comm]) (Int.dvd_of_emod_eq_zero c) (by omega)
    · rename_i c
      exact ⟨a, hf, hd, fun h => c (Int.emod_eq_zero_of_dvd h)⟩
def twos (n : Int) : Int := twosGo n n.toNat 1
theorem twos_is {n : Int} (hn : 0 < n) : IsTwos n (twos n) := twosGo_ok hn n.toNat 0 1 rfl ⟨n, by simp⟩ (by omega)
theorem twos_eq {n t : Int} (hn : 0 < n) (h : IsTwos n t) : twos n = t := (twos_is hn).unique h
theorem twos_pos {n : Int} (hn : 0 < n) : 0 < twos n := by
  obtain ⟨a, h, _⟩ := twos_is hn
  rw [h]
  exact two_pow_pos a
theorem twos_le {n : Int} (hn : 0 < n) : twos n ≤ n := by
  obtain ⟨a, _, h, _⟩ := twos_is hn
  exact Int.le_of_dvd hn h
theorem twos_mul_div {n : Int} (hn : 0 < n) : twos n * (n / twos n) = n := by
  obtain ⟨a, _, h, _⟩ := twos_is hn
  exact Int.mul_ediv_cancel' h
/-- n without its twos -/
def oddOf (n : Int) : Int := n / twos n
theorem oddOf_pos {n : Int} (hn : 0 < n) : 0 < oddOf n := by
  have h := twos_mul_div hn
  have p := twos_pos hn
  unfold oddOf
  refine Int.pos_of_mul_pos_right ?_ p
  rw [h]; exact hn
theorem oddOf_odd {n : Int} (hn : 0 < n) : oddOf n % 2 = 1 := by
  have h := twos_mul_div hn
  obtain ⟨a, e, h1, h2⟩ := twos_is hn
  have : ¬ (2 ∣ n / twos n) := fun ⟨k, hk⟩ => h2 ⟨k, by rw [hk] at h; rw [Int.mul_comm 2, Int.mul_assoc]; exact h.symm⟩
  unfold oddOf
  omega
/-- an odd number times a power of two -/
theorem twos_of_mul {m : Int} (hm : 0 < m) (ho : m % 2 = 1) (a : Nat) : twos (m * 2 ^ a) = 2 ^ a ∧ oddOf (m * 2 ^ a) = m := by
  have p := two_pow_pos a
  have hn : 0 < m * 2 ^ a := Int.mul_pos hm p
  have e : twos (m * 2 ^ a) = 2 ^ a := by
    refine twos_eq hn ⟨a, rfl, Int.dvd_mul_left _ _, fun ⟨k, hk⟩ => ?_⟩
    rw [Int.mul_comm 2, Int.mul_assoc, Int.mul_comm m] at hk
    have := Int.eq_of_mul_eq_mul_left (by omega) hk
    omega
  refine ⟨e, ?_⟩
  unfold oddOf
  rw [e]
  exact Int.mul_ediv_cancel _ (by omega)
theorem odd_twos {n : Int} (hn : 0 < n) : ∃ a : Nat, twos n = 2 ^ a ∧ n = oddOf n * 2 ^ a := by
  obtain ⟨a, e, _, _⟩ := twos_is hn
  refine ⟨a, e, ?_⟩
  rw [← e, Int.mul_comm]
  exact (twos_mul_div hn).symm
/-! ### strictly sorted lists -/
def insU (x : Int) : List Int → List Int
  | [] => [x]
  | y :: r => if x < y then x :: y :: r else if x = y then y :: r else y :: insU x r
def sset : List Int → List Int
  | [] => []
  | x :: r => insU x (sset r)
theorem insU_mem (x : Int) : ∀ (l : List Int) (z : Int), z ∈ insU x l ↔ z = x ∨ z ∈ l
  | [], z => by simp [insU]
  | y :: r, z => by
    unfold insU
    split
    · simp
    · split
      · rename_i _ c
        subst c
        simp
      · have ih := insU_mem x r z
        simp only [List.mem_cons, ih]
        constructor
        · rintro (h | h | h) <;> simp [h]
        · rintro (h | h | h) <;> simp [h]
theorem sset_mem : ∀ (l : List Int) (z : Int), z ∈ sset l ↔ z ∈ l
  | [], z => by simp [sset]
  | x :: r, z => by
    unfold sset
    rw [insU_mem, sset_mem r z, List.mem_cons]
theorem insU_lt (x : Int) : ∀ l : List Int, l.Pairwise (· < ·) → (insU x l).Pairwise (· < ·)
  | [], _ => List.pairwise_singleton _ _
  | y :: r, h => by
    obtain ⟨h1, h2⟩ := List.pairwise_cons.mp h
    unfold insU
    split
    · rename_i c
      refine List.pairwise_cons.mpr ⟨fun z hz => ?_, h⟩
      rcases List.mem_cons.mp hz with e | e
      · rw [e]; exact c
      · exact Int.lt_trans c (h1 z e)
    · split
      · exact h
      · rename_i c d
        refine List.pairwise_cons.mpr ⟨fun z hz => ?_, insU_lt x r h2⟩
        rcases (insU_mem x r z).mp hz with e | e
        · rw [e]; omega
        · exact h1 z e
theorem sset_lt : ∀ l : List Int, (sset l).Pairwise (· < ·)
  | [] => List.Pairwise.nil
  | x :: r => insU_lt x _ (sset_lt r)
theorem lt_unique : ∀ {l k : List Int}, l.Pairwise (· < ·) → k.Pairwise (· < ·) → (∀ z, z ∈ l ↔ z ∈ k) → l = k
  | [], [], _, _, _ => rfl
  | [], y :: k, _, _, h => absurd ((h y).mpr List.mem_cons_self) (by simp)
  | x :: l, [], _, _, h => absurd ((h x).mp List.mem_cons_self) (by simp)
  | x :: l, y :: k, hl, hk, h => by
    obtain ⟨l1, l2⟩ := List.pairwise_cons.mp hl
    obtain ⟨k1, k2⟩ := List.pairwise_cons.mp hk
    have e : x = y := by
      rcases List.mem_cons.mp ((h x).mp List.mem_cons_self) with e | e
      · exact e
      · rcases List.mem_cons.mp ((h y).mpr List.mem_cons_self) with f | f
        · exact f.symm
        · have a := k1 x e
          have b := l1 y f
          omega
    subst e
    congr 1
    refine lt_unique l2 k2 fun z => ⟨fun hz => ?_, fun hz => ?_⟩
    · rcases List.mem_cons.mp ((h z).mp (List.mem_cons_of_mem _ hz)) with e | e
      · have := l1 z hz
        omega
      · exact e
    · rcases List.mem_cons.mp ((h z).mpr (List.mem_cons_of_mem _ hz)) with e | e
      · have := k1 z hz
        omega
      · exact e
theorem isort_lt {l : List Int} (h : l.Nodup) : (isort l).Pairwise (· < ·) := by
  have a := isort_le l
  have b : (isort l).Nodup := (isort_perm l).nodup_iff.mpr h
  refine (List.Pairwise.and a b).imp fun {x y} h => ?_
  obtain ⟨h1, h2⟩ := h
  omega
/-! ### the odd divisors -/
def lowGo (odd : Int) : Nat → Int → List Int → List Int
  | 0, _, low => low
  | k + 1, p, low => if p * p ≤ odd then lowGo odd k (p + 2) (low ++ if odd % p = 0 then [p] else []) else low
theorem sq_ge {p : Int} (h : 1 ≤ p) : p ≤ p * p := by
  have := Int.mul_le_mul_of_nonneg_left h (show 0 ≤ p by omega)
  omega
theorem sq_mono {p q : Int} (h : 0 ≤ p) (k : p ≤ q) : p * p ≤ q * q := Int.mul_le_mul k k h (by omega)
theorem lowGo_mem {odd : Int} : ∀ (k : Nat) (p : Int) (low : List Int) (z : Int), 1 ≤ p → odd < p + k →
    (z ∈ lowGo odd k p low ↔ z ∈ low ∨ (p ≤ z ∧ (z - p) % 2 = 0 ∧ z * z ≤ odd ∧ z ∣ odd))
  | 0, p, low, z, hp, hk => by
    unfold lowGo
    constructor
    · exact Or.inl
    · rintro (h | ⟨h1, _, h2, _⟩)
      · exact h
      · have := sq_ge hp
        have := sq_mono (by omega) h1
        omega
  | k + 1, p, low, z, hp, hk => by
    unfold lowGo
    split
    · rename_i c
      rw [lowGo_mem k (p + 2) _ z (by omega) (by omega)]
      constructor
      · rintro (h | ⟨h1, h2, h3, h4⟩)
        · rcases List.mem_append.mp h with h | h
          · exact Or.inl h
          · right
            by_cases d : odd % p = 0
            · rw [if_pos d] at h
              obtain rfl := List.mem_singleton.mp h
              exact ⟨Int.le_refl _, by simp, c, Int.dvd_of_emod_eq_zero d⟩
            · rw [if_neg d] at h
              cases h
        · exact Or.inr ⟨by omega, by omega, h3, h4⟩
      · rintro (h | ⟨h1, h2, h3, h4⟩)
        · exact Or.inl (List.mem_append_left _ h)
        · by_cases e : z = p
          · subst e
            refine Or.inl (List.mem_append_right _ ?_)
            rw [if_pos (Int.emod_eq_zero_of_dvd h4)]
            exact List.mem_singleton.mpr rfl
          · exact Or.inr ⟨by omega, by omega, h3, h4⟩
    · rename_i c
      constructor
      · exact Or.inl
      · rintro (h | ⟨h1, _, h2, _⟩)
        · exact h
        · have := sq_mono (show 0 ≤ p by omega) h1
          omega
def lowOf (odd : Int) : List Int := lowGo odd odd.toNat 1 []
def oddParts (n : Int) : List Int := sset (lowOf (oddOf n) ++ (lowOf (oddOf n)).map fun p => oddOf n / p)
theorem low_mem {odd z : Int} : z ∈ lowOf odd ↔ 1 ≤ z ∧ z % 2 = 1 ∧ z * z ≤ odd ∧ z ∣ odd := by
  unfold lowOf
  rw [lowGo_mem odd.toNat 1 [] z (Int.le_refl _) (by omega)]
  simp only [List.not_mem_nil, false_or]
  constructor
  · rintro ⟨h1, h2, h3, h4⟩; exact ⟨h1, by omega, h3, h4⟩
  · rintro ⟨h1, h2, h3, h4⟩; exact ⟨h1, by omega, h3, h4⟩
theorem odd_dvd {m z : Int} (ho : m % 2 = 1) (h : z ∣ m) : z % 2 = 1 := by
  obtain ⟨k, rfl⟩ := h
  rcases Int.emod_two_eq z with e | e
  · exfalso
    rw [Int.mul_emod, e] at ho
    simp at ho
  · exact e
theorem oddParts_mem {n : Int} (hn : 0 < n) (z : Int) : z ∈ oddParts n ↔ 0 < z ∧ z ∣ oddOf n := by
  have op := oddOf_pos hn
  have oo := oddOf_odd hn
  unfold oddParts
  rw [sset_mem, List.mem_append]
  constructor
  · rintro (h | h)
    · obtain ⟨h1, _, _, h4⟩ := low_mem.mp h
      exact ⟨by omega, h4⟩
    · obtain ⟨p, hp, rfl⟩ := List.mem_map.mp h
      obtain ⟨h1, _, _, h4⟩ := low_mem.mp hp
      have e := Int.mul_ediv_cancel' h4
      refine ⟨Int.pos_of_mul_pos_right (a := p) (by rw [e]; exact op) (by omega), ⟨p, ?_⟩⟩
      rw [Int.mul_comm]; exact e.symm
  · rintro ⟨h1, h2⟩
    have zo := odd_dvd oo h2
    by_cases c : z * z ≤ oddOf n
    · exact Or.inl (low_mem.mpr ⟨by omega, zo, c, h2⟩)
    · right
      obtain ⟨j, hj⟩ := h2
      have jp : 0 < j := Int.pos_of_mul_pos_right (a := z) (by rw [← hj]; exact op) (by omega)
      have jd : j ∣ oddOf n := ⟨z, by rw [Int.mul_comm]; exact hj⟩
      have jz : j < z := by
        refine Int.lt_of_not_ge fun hh => c ?_
        rw [hj]
        exact Int.mul_le_mul_of_nonneg_left hh (by omega)
      have js : j * j ≤ oddOf n := by
        rw [hj]
        exact Int.mul_le_mul_of_nonneg_right (Int.le_of_lt jz) (by omega)
      refine List.mem_map.mpr ⟨j, low_mem.mpr ⟨by omega, odd_dvd oo jd, js, jd⟩, ?_⟩
      rw [hj]
      exact Int.mul_ediv_cancel _ (by omega)
end Wet
end
section
namespace Wet
/-! ### weights, powers, the told sizes -/
def weight (fs : List Int) (odd : Int) : Int :=
  (((steps fs).filter fun s => decide (s % odd = 0)).map twos).sum + (if odd = 1 then 1 + (if fs.headD 0 % 2 = 0 then 1 else 0) else 0)
def powW (w : Int) : Int := if w ≤ 0 then -1 else (Nat.log2 w.toNat : Int)
def dbl (o w : Int) : List Int := (List.range (powW w + 1).toNat).map fun i => o * 2 ^ i
theorem powW_iff {w : Int} (i : Nat) : (i : Int) < powW w + 1 ↔ (2 : Int) ^ i ≤ w := by
  unfold powW
  split
  · rename_i c
    have := two_pow_pos i
    constructor <;> intro h <;> omega
  · rename_i c
    have h0 : w.toNat ≠ 0 := by omega
    have h1 := Nat.le_log2 h0 (k := i)
    have e : ((2 ^ i : Nat) : Int) = (2 : Int) ^ i := by simp
    constructor
    · intro h
      have := h1.mp (by omega)
      omega
    · intro h
      have := h1.mpr (by omega)
      omega
theorem dbl_mem {o w x : Int} : x ∈ dbl o w ↔ ∃ i : Nat, x = o * 2 ^ i ∧ (2 : Int) ^ i ≤ w := by
  unfold dbl
  rw [List.mem_map]
  constructor
  · rintro ⟨i, hi, rfl⟩
    rw [List.mem_range] at hi
    exact ⟨i, rfl, (powW_iff i).mp (by omega)⟩
  · rintro ⟨i, rfl, h⟩
    exact ⟨i, List.mem_range.mpr (by have := (powW_iff i).mpr h; omega), rfl⟩
def addU (acc more : List Int) : List Int := more.foldl (fun acc k => if k ∈ acc then acc else acc ++ [k]) acc
theorem addU_mem : ∀ (more acc : List Int) (z : Int), z ∈ addU acc more ↔ z ∈ acc ∨ z ∈ more
  | [], acc, z => by simp [addU]
  | k :: r, acc, z => by
    have ih := addU_mem r (if k ∈ acc then acc else acc ++ [k]) z
    show z ∈ addU (if k ∈ acc then acc else acc ++ [k]) r ↔ _
    rw [ih]
    split
    · rename_i c
      simp only [List.mem_cons]
      constructor
      · rintro (h | h) <;> simp [h]
      · rintro (h | h | h)
        · exact Or.inl h
        · exact Or.inl (h ▸ c)
        · exact Or.inr h
    · simp only [List.mem_append, List.mem_cons, List.not_mem_nil, or_false, or_assoc]
theorem addU_nodup : ∀ (more acc : List Int), acc.Nodup → (addU acc more).Nodup
  | [], acc, h => h
  | k :: r, acc, h => by
    show (addU (if k ∈ acc then acc else acc ++ [k]) r).Nodup
    refine addU_nodup r _ ?_
    split
    · exact h
    · rename_i c
      rw [List.nodup_append]
      refine ⟨h, by simp, fun a ha b hb => ?_⟩
      rw [List.mem_singleton.mp hb]
      exact fun e => c (e ▸ ha)
def odds (fs : List Int) : List Int := (steps fs).foldl (fun acc s => addU acc (oddParts s)) [1]
theorem odds_gen : ∀ (l acc : List Int), acc.Nodup → (l.foldl (fun acc s => addU acc (oddParts s)) acc).Nodup ∧ ∀ z, z ∈ l.foldl (fun acc s => addU acc (oddParts s)) acc ↔ z ∈ acc ∨ ∃ s ∈ l, z ∈ oddParts s
  | [], acc, h => ⟨h, fun z => by simp⟩
  | s :: r, acc, h => by
    obtain ⟨h1, h2⟩ := odds_gen r (addU acc (oddParts s)) (addU_nodup _ _ h)
    refine ⟨h1, fun z => ?_⟩
    show z ∈ r.foldl _ (addU acc (oddParts s)) ↔ _
    rw [h2 z, addU_mem]
    simp only [List.mem_cons, exists_eq_or_imp, or_assoc]
theorem odds_nodup (fs : List Int) : (odds fs).Nodup := (odds_gen _ _ (by simp)).1
theorem odds_mem (fs : List Int) (z : Int) : z ∈ odds fs ↔ z = 1 ∨ ∃ s ∈ steps fs, z ∈ oddParts s := by
  have := (odds_gen (steps fs) [1] (by simp)).2 z
  unfold odds
  simpa using this
def toldRaw (fs : List Int) : List Int := (odds fs).flatMap fun o => dbl o (weight fs o)
def told (fs : List Int) : List Int := isort (toldRaw fs)
theorem sum_twos_nonneg : ∀ l : List Int, (∀ s ∈ l, 0 < s) → 0 ≤ (l.map twos).sum
  | [], _ => by simp
  | s :: r, h => by
    have := twos_pos (h s List.mem_cons_self)
    have := sum_twos_nonneg r fun x hx => h x (List.mem_cons_of_mem _ hx)
    simp only [List.map_cons, List.sum_cons]
    omega
theorem sum_twos_zero : ∀ l : List Int, (∀ s ∈ l, 0 < s) → 0 < (l.map twos).sum → ∃ s, s ∈ l
  | [], _, h => by simp at h
  | s :: r, _, _ => ⟨s, List.mem_cons_self⟩
/-- an odd number that divides n divides what is left without the twos -/
theorem dvd_oddOf {n o : Int} (hn : 0 < n) (ho : o % 2 = 1) (h : o ∣ n) : o ∣ oddOf n := by
  obtain ⟨a, _, e⟩ := odd_twos hn
  have h2 : o.natAbs ∣ (oddOf n).natAbs * 2 ^ a := by
    have := Int.natAbs_dvd_natAbs.mpr h
    rw [e, Int.natAbs_mul, Int.natAbs_pow] at this
    exact this
  have c : Nat.Coprime o.natAbs (2 ^ a) := by
    refine Nat.Coprime.pow_right a ?_
    have : o.natAbs % 2 = 1 := by omega
    rw [Nat.coprime_comm]
    show Nat.gcd 2 o.natAbs = 1
    rw [Nat.gcd_rec, this]
    rfl
  exact Int.natAbs_dvd_natAbs.mp (Nat.Coprime.dvd_of_dvd_mul_right c h2)
theorem odds_odd {fs : List Int} (hp : ∀ s ∈ steps fs, 0 < s) {o : Int} (h : o ∈ odds fs) : 0 < o ∧ o % 2 = 1 := by
  rcases (odds_mem fs o).mp h with rfl | ⟨s, hs, ho⟩
  · exact ⟨by decide, by decide⟩
  · obtain ⟨h1, h2⟩ := (oddParts_mem (hp s hs) o).mp ho
    exact ⟨h1, odd_dvd (oddOf_odd (hp s hs)) h2⟩
theorem told_mem {fs : List Int} (hp : ∀ s ∈ steps fs, 0 < s) (x : Int) : x ∈ told fs ↔ 0 < x ∧ twos x ≤ weight fs (oddOf x) := by
  unfold told toldRaw
  rw [(isort_perm _).mem_iff, List.mem_flatMap]
  constructor
  · rintro ⟨o, ho, hx⟩
    obtain ⟨i, rfl, hi⟩ := dbl_mem.mp hx
    obtain ⟨h1, h2⟩ := odds_odd hp ho
    obtain ⟨e1, e2⟩ := twos_of_mul h1 h2 i
    rw [e1, e2]
    exact ⟨Int.mul_pos h1 (two_pow_pos i), hi⟩
  · rintro ⟨h0, hw⟩
    obtain ⟨a, e1, e2⟩ := odd_twos h0
    refine ⟨oddOf x, (odds_mem fs _).mpr ?_, dbl_mem.mpr ⟨a, e2, by rw [← e1]; exact hw⟩⟩
    by_cases c : oddOf x = 1
    · exact Or.inl c
    · right
      unfold weight at hw
      rw [if_neg c] at hw
      have tp := twos_pos h0
      obtain ⟨s, hs⟩ := sum_twos_zero ((steps fs).filter fun s => decide (s % oddOf x = 0)) (fun s hs => hp s (List.mem_filter.mp hs).1) (by omega)
      obtain ⟨hs1, hs2⟩ := List.mem_filter.mp hs
      have hd : oddOf x ∣ s := Int.dvd_of_emod_eq_zero (of_decide_eq_true hs2)
      exact ⟨s, hs1, (oddParts_mem (hp s hs1) _).mpr ⟨oddOf_pos h0, dvd_oddOf (hp s hs1) (oddOf_odd h0) hd⟩⟩
theorem dbl_nodup {o w : Int} (ho : 0 < o) : (dbl o w).Nodup := by
  unfold dbl
  refine List.Pairwise.map _ (fun a b h => ?_) (List.nodup_range (n := (powW w + 1).toNat))
  intro e
  have e2 : (2 : Int) ^ a = 2 ^ b := Int.eq_of_mul_eq_mul_left (by omega) e
  have key : ∀ a b : Nat, a < b → (2 : Int) ^ a ≠ 2 ^ b := by
    intro a b lt e
    have e3 : (2 : Int) ^ b = 2 ^ a * 2 ^ (b - a) := by rw [← Int.pow_add]; congr 1; omega
    have e4 : (2 : Int) ^ (b - a) = 2 * 2 ^ (b - a - 1) := by
      have : b - a = (b - a - 1) + 1 := by omega
      rw [this, Int.pow_succ, Int.mul_comm]
      rfl
    have p := two_pow_pos a
    have q := two_pow_pos (b - a - 1)
    have e5 : (2 : Int) ^ a * 1 = 2 ^ a * 2 ^ (b - a) := by rw [Int.mul_one, ← e3]; exact e
    have := Int.eq_of_mul_eq_mul_left (by omega) e5
    omega
  rcases Nat.lt_trichotomy a b with l | l | l
  · exact key a b l e2
  · exact h l
  · exact key b a l e2.symm
theorem told_nodup {fs : List Int} (hp : ∀ s ∈ steps fs, 0 < s) : (toldRaw fs).Nodup := by
  unfold toldRaw
  rw [List.Nodup, List.pairwise_flatMap]
  refine ⟨fun o ho => dbl_nodup (odds_odd hp ho).1, ?_⟩
  refine (List.Pairwise.and_mem.mp (odds_nodup fs)).imp ?_
  rintro o u ⟨ho, hu, ne⟩ x hx y hy rfl
  obtain ⟨i, rfl, _⟩ := dbl_mem.mp hx
  obtain ⟨j, e, _⟩ := dbl_mem.mp hy
  obtain ⟨a1, a2⟩ := odds_odd hp ho
  obtain ⟨b1, b2⟩ := odds_odd hp hu
  apply ne
  rw [← (twos_of_mul a1 a2 i).2, e, (twos_of_mul b1 b2 j).2]
theorem told_lt {fs : List Int} (hp : ∀ s ∈ steps fs, 0 < s) : (told fs).Pairwise (· < ·) := isort_lt (told_nodup hp)
/-! ### bounds -/
theorem sum_filter_le : ∀ (l : List Int) (o : Int), 0 < o → o % 2 = 1 → (∀ s ∈ l, 0 < s) → o * (((l.filter fun s => decide (s % o = 0)).map twos).sum) ≤ l.sum
  | [], o, _, _, _ => by simp
  | s :: r, o, h0, ho, hp => by
    have ih := sum_filter_le r o h0 ho fun x hx => hp x (List.mem_cons_of_mem _ hx)
    have sp := hp s List.mem_cons_self
    rw [List.filter_cons]
    by_cases c : s % o = 0
    · rw [if_pos (decide_eq_true c), List.map_cons, List.sum_cons, List.sum_cons, Int.mul_add]
      have h1 := dvd_oddOf sp ho (Int.dvd_of_emod_eq_zero c)
      have h2 := Int.le_of_dvd (oddOf_pos sp) h1
      have h3 := twos_mul_div sp
      have h4 : o * twos s ≤ s := by
        have := Int.mul_le_mul_of_nonneg_left h2 (Int.le_of_lt (twos_pos sp))
        rw [Int.mul_comm]
        unfold oddOf at this
        omega
      omega
    · rw [if_neg (by simpa using c), List.sum_cons]
      omega
theorem weight_le {fs : List Int} (hp : ∀ s ∈ steps fs, 0 < s) {o : Int} (h0 : 0 < o) (ho : o % 2 = 1) : o * weight fs o ≤ (steps fs).sum + 2 := by
  have h := sum_filter_le (steps fs) o h0 ho hp
  unfold weight
  rw [Int.mul_add]
  by_cases c : o = 1
  · subst c
    rw [if_pos rfl]
    split <;> omega
  · rw [if_neg c]
    omega
theorem weight_nonneg {fs : List Int} (hp : ∀ s ∈ steps fs, 0 < s) (o : Int) : 0 ≤ weight fs o := by
  have h := sum_twos_nonneg ((steps fs).filter fun s => decide (s % o = 0)) fun s hs => hp s (List.mem_filter.mp hs).1
  unfold weight
  split
  · split <;> omega
  · omega
theorem told_le {fs : List Int} (hp : ∀ s ∈ steps fs, 0 < s) {x : Int} (h : x ∈ told fs) : x ≤ (steps fs).sum + 2 := by
  obtain ⟨h0, hw⟩ := (told_mem hp x).mp h
  have h1 := weight_le hp (oddOf_pos h0) (oddOf_odd h0)
  have h2 := twos_mul_div h0
  have h3 := Int.mul_le_mul_of_nonneg_left hw (Int.le_of_lt (oddOf_pos h0))
  rw [Int.mul_comm (oddOf x) (twos x)] at h3
  unfold oddOf at h3 h1
  omega
end Wet
end
section
namespace Wet
/-! ### sizes below 90: the parts of a size, by a look at each -/
def eOf (n : Nat) : Nat := if n % 64 = 0 then 6 else if n % 32 = 0 then 5 else if n % 16 = 0 then 4 else if n % 8 = 0 then 3 else if n % 4 = 0 then 2 else if n % 2 = 0 then 1 else 0
def mOf (n : Nat) : Nat := n / 2 ^ eOf n
def pOf (n : Nat) : List Nat := [3, 5, 7, 11, 13, 17, 19, 23, 29, 31, 37, 41, 43, 47, 53, 59, 61, 67, 71, 73, 79, 83, 89].filter fun p => n % p == 0
def goodB (n : Nat) : Bool :=
  decide (n = mOf n * 2 ^ eOf n) && decide (mOf n % 2 = 1) && ((pOf n).all fun p => decide (p % 2 = 1) && decide (0 < p) && decide (p * (n / p) = n)) &&
    ((List.range (n + 1)).all fun d => decide (n % d ≠ 0) || decide (d % mOf n = 0) || ((pOf n).any fun p => decide ((n / p) % d = 0))) &&
    Tl ((pOf n).map fun p => ((n / p : Nat) : Int)) (Ks (mOf n : Int) (2 ^ eOf n) (dlt n)) 0
theorem good_all : ∀ n : Nat, n < 90 → 0 < n → goodB n = true := by decide +kernel
theorem good_of {n : Nat} (h : n < 90) (h0 : 0 < n) : Good n (mOf n) (eOf n) (pOf n) ∧ mOf n % 2 = 1 := by
  have g := good_all n h h0
  unfold goodB at g
  simp only [Bool.and_eq_true, decide_eq_true_eq, List.all_eq_true, Bool.or_eq_true, List.any_eq_true] at g
  obtain ⟨⟨⟨⟨g1, g2⟩, g3⟩, g4⟩, g5⟩ := g
  refine ⟨⟨h0, g1, fun p hp => ?_, fun d hd hm => ?_, g5⟩, g2⟩
  · obtain ⟨⟨a, b⟩, c⟩ := g3 p hp
    exact ⟨a, b, c⟩
  · have dl := Nat.le_of_dvd h0 hd
    rcases g4 d (List.mem_range.mpr (by omega)) with (a | a) | ⟨p, hp, a⟩
    · exact absurd (Nat.mod_eq_zero_of_dvd hd) a
    · exact absurd (Nat.dvd_of_mod_eq_zero a) hm
    · exact ⟨p, hp, Nat.dvd_of_mod_eq_zero a⟩
theorem parts_of {n : Nat} (h : n < 90) (h0 : 0 < n) : twos n = 2 ^ eOf n ∧ oddOf n = mOf n := by
  obtain ⟨g, ho⟩ := good_of h h0
  have e : (n : Int) = (mOf n : Int) * 2 ^ eOf n := by
    have := congrArg (Int.ofNat) g.nm
    simpa using this
  have mp : 0 < mOf n := by
    refine Nat.pos_of_ne_zero fun z => ?_
    rw [z] at ho
    cases ho
  have := twos_of_mul (m := (mOf n : Int)) (by omega) (by omega) (eOf n)
  rw [← e] at this
  exact this
/-! ### weights by pairs -/
def pairs (m : Int) (l : List Int) : List (Int × Nat) := l.map fun s => (s, if s % m = 0 then (twos s).toNat else 0)
theorem pairs_fst (m : Int) (l : List Int) : (pairs m l).map (·.1) = l := by
  unfold pairs
  rw [List.map_map]
  exact List.map_id' l
theorem pairs_wt (m : Int) : ∀ l : List Int, (∀ s ∈ l, 0 < s) → ((Wt (pairs m l) : Nat) : Int) = ((l.filter fun s => decide (s % m = 0)).map twos).sum
  | [], _ => rfl
  | s :: r, h => by
    have ih := pairs_wt m r fun x hx => h x (List.mem_cons_of_mem _ hx)
    have sp := twos_pos (h s List.mem_cons_self)
    show (((if s % m = 0 then (twos s).toNat else 0) + Wt (pairs m r) : Nat) : Int) = _
    rw [List.filter_cons]
    by_cases c : s % m = 0
    · rw [if_pos c, if_pos (decide_eq_true c), List.map_cons, List.sum_cons, ← ih]
      omega
    · rw [if_neg c, if_neg (by simpa using c), ← ih]
      omega
theorem pow_toNat (a : Nat) : ((2 : Int) ^ a).toNat = 2 ^ a := by
  have e : ((2 ^ a : Nat) : Int) = (2 : Int) ^ a := by simp
  rw [← e]
  exact Int.toNat_natCast _
theorem pairs_suf {m : Nat} (ho : m % 2 = 1) {l : List Int} (h : ∀ s ∈ l, 0 < s) : ∀ p ∈ pairs m l, p.2 = 0 ∨ ∃ a, p.2 = 2 ^ a ∧ (m : Int) * 2 ^ a ∣ p.1 := by
  intro p hp
  obtain ⟨s, hs, rfl⟩ := List.mem_map.mp hp
  by_cases c : s % (m : Int) = 0
  · right
    obtain ⟨a, e1, e2⟩ := odd_twos (h s hs)
    refine ⟨a, ?_, ?_⟩
    · show (if s % (m : Int) = 0 then (twos s).toNat else 0) = _
      rw [if_pos c, e1, pow_toNat]
    · have d := dvd_oddOf (h s hs) (show (m : Int) % 2 = 1 by omega) (Int.dvd_of_emod_eq_zero c)
      show (m : Int) * 2 ^ a ∣ s
      rw [e2]
      exact Int.mul_dvd_mul d (Int.dvd_refl _)
  · left
    show (if s % (m : Int) = 0 then (twos s).toNat else 0) = 0
    rw [if_neg c]
theorem pairs_nec {m : Nat} (ho : m % 2 = 1) {l : List Int} (h : ∀ s ∈ l, 0 < s) : ∀ p ∈ pairs m l, (p.2 = 0 ∧ ¬ (m : Int) ∣ p.1) ∨ ∃ (a c : Nat), p.2 = 2 ^ a ∧ p.1.natAbs = m * 2 ^ a * c ∧ c % 2 = 1 := by
  intro p hp
  obtain ⟨s, hs, rfl⟩ := List.mem_map.mp hp
  by_cases c : s % (m : Int) = 0
  · right
    obtain ⟨a, e1, e2⟩ := odd_twos (h s hs)
    have d := dvd_oddOf (h s hs) (show (m : Int) % 2 = 1 by omega) (Int.dvd_of_emod_eq_zero c)
    obtain ⟨k, hk⟩ := d
    have oo := oddOf_odd (h s hs)
    refine ⟨a, k.natAbs, ?_, ?_, ?_⟩
    · show (if s % (m : Int) = 0 then (twos s).toNat else 0) = _
      rw [if_pos c, e1, pow_toNat]
    · show s.natAbs = _
      rw [e2, hk, Int.natAbs_mul, Int.natAbs_mul, Int.natAbs_pow, Int.natAbs_natCast, Nat.mul_assoc, Nat.mul_assoc, Nat.mul_comm k.natAbs]
      rfl
    · have : k % 2 = 1 := odd_dvd oo ⟨m, by rw [Int.mul_comm]; exact hk⟩
      omega
  · left
    refine ⟨?_, fun d => c (Int.emod_eq_zero_of_dvd d)⟩
    show (if s % (m : Int) = 0 then (twos s).toNat else 0) = 0
    rw [if_neg c]
/-! ### THE LAW of the steps and the first way -/
theorem washed_iff {fs : List Int} (hp : ∀ s ∈ steps fs, 0 < s) {n : Nat} (h : n < 90) (h0 : 0 < n) :
    (∀ spot : Nat, spot < n → T (2 * (spot : Int) - fs.headD 0) (Tl (steps fs) (dlt n)) = Z) ↔ twos n ≤ weight fs (oddOf n) := by
  obtain ⟨g, ho⟩ := good_of h h0
  obtain ⟨e1, e2⟩ := parts_of h h0
  rw [e1, e2]
  have e3 : ((2 ^ eOf n : Nat) : Int) = (2 : Int) ^ eOf n := by simp
  have wt := pairs_wt (mOf n : Int) (steps fs) hp
  have tl : ∀ (t : Int) (k : Nat), Tl (((t, k) :: pairs (mOf n : Int) (steps fs)).map (·.1)) (dlt n) = T t (Tl (steps fs) (dlt n)) := by
    intro t k
    rw [List.map_cons, pairs_fst]
    exact Tl_T _ _ _
  have nle : mOf n ≤ n := Nat.div_le_self _ _
  constructor
  · intro hw
    -- one spot, one weight of the first way
    have use : ∀ (spot k : Nat), spot < n → ((k = 0 ∧ ¬ (mOf n : Int) ∣ 2 * (spot : Int) - fs.headD 0) ∨ ∃ (a c : Nat), k = 2 ^ a ∧ (2 * (spot : Int) - fs.headD 0).natAbs = mOf n * 2 ^ a * c ∧ c % 2 = 1) →
        (2 : Int) ^ eOf n ≤ (((steps fs).filter fun s => decide (s % (mOf n : Int) = 0)).map twos).sum + k := by
      intro spot k hs hk
      have := nece g ((2 * (spot : Int) - fs.headD 0, k) :: pairs (mOf n : Int) (steps fs)) (fun p hp' => by
        rcases List.mem_cons.mp hp' with rfl | hp'
        · exact hk
        · exact pairs_nec ho hp p hp') (by rw [tl]; exact hw spot hs)
      have e5 : Wt ((2 * (spot : Int) - fs.headD 0, k) :: pairs (mOf n : Int) (steps fs)) = k + Wt (pairs (mOf n : Int) (steps fs)) := rfl
      rw [e5] at this
      rw [← wt, ← e3]
      omega
    unfold weight
    by_cases c : mOf n = 1
    · rw [if_pos (by omega)]
      by_cases f : fs.headD 0 % 2 = 0
      · rw [if_pos f]
        by_cases ez : eOf n = 0
        · have := sum_twos_nonneg ((steps fs).filter fun s => decide (s % (mOf n : Int) = 0)) fun s hs => hp s (List.mem_filter.mp hs).1
          rw [ez]
          omega
        · have n2 : 2 ≤ n := by
            have h1 := g.nm
            rw [c, Nat.one_mul] at h1
            have h2 : eOf n = (eOf n - 1) + 1 := by omega
            rw [h2, Nat.pow_succ] at h1
            have := Nat.two_pow_pos (eOf n - 1)
            omega
          by_cases q : fs.headD 0 % 4 = 0
          · exact use 1 2 (by omega) (Or.inr ⟨1, (2 * ((1 : Nat) : Int) - fs.headD 0).natAbs / 2, rfl, by rw [c]; omega, by omega⟩)
          · exact use 0 2 (by omega) (Or.inr ⟨1, (2 * ((0 : Nat) : Int) - fs.headD 0).natAbs / 2, rfl, by rw [c]; omega, by omega⟩)
      · rw [if_neg f]
        exact use 0 1 h0 (Or.inr ⟨0, (2 * ((0 : Nat) : Int) - fs.headD 0).natAbs, rfl, by rw [c]; omega, by omega⟩)
    · rw [if_neg (by omega)]
      have m3 : 3 ≤ mOf n := by omega
      by_cases d : (mOf n : Int) ∣ 2 * ((0 : Nat) : Int) - fs.headD 0
      · refine use 1 0 (by omega) (Or.inl ⟨rfl, fun d2 => ?_⟩)
        have d3 : (mOf n : Int) ∣ 2 := by
          have := Int.dvd_sub d2 d
          have e6 : 2 * ((1 : Nat) : Int) - fs.headD 0 - (2 * ((0 : Nat) : Int) - fs.headD 0) = 2 := by omega
          rwa [e6] at this
        have := Int.le_of_dvd (by decide) d3
        omega
      · exact use 0 0 h0 (Or.inl ⟨rfl, d⟩)
  · intro hle spot hs
    rw [← tl _ (if mOf n = 1 then (if fs.headD 0 % 2 = 0 then 2 else 1) else 0)]
    refine suffi g.nm _ (fun p hp' => ?_) ?_
    · rcases List.mem_cons.mp hp' with rfl | hp'
      · show (if mOf n = 1 then (if fs.headD 0 % 2 = 0 then 2 else 1) else 0) = 0 ∨ ∃ a, (if mOf n = 1 then (if fs.headD 0 % 2 = 0 then 2 else 1) else 0) = 2 ^ a ∧ (mOf n : Int) * 2 ^ a ∣ 2 * (spot : Int) - fs.headD 0
        by_cases c : mOf n = 1
        · rw [if_pos c, c]
          right
          by_cases f : fs.headD 0 % 2 = 0
          · rw [if_pos f]
            refine ⟨1, rfl, ?_⟩
            show (1 : Int) * 2 ∣ _
            rw [Int.one_mul]
            omega
          · rw [if_neg f]
            exact ⟨0, rfl, ⟨2 * (spot : Int) - fs.headD 0, by simp⟩⟩
        · rw [if_neg c]
          exact Or.inl rfl
      · exact pairs_suf ho hp p hp'
    · have e5 : ∀ (t : Int) (k : Nat), Wt ((t, k) :: pairs (mOf n : Int) (steps fs)) = k + Wt (pairs (mOf n : Int) (steps fs)) := fun _ _ => rfl
      rw [e5]
      unfold weight at hle
      rw [← wt, ← e3] at hle
      by_cases c : mOf n = 1
      · rw [if_pos c]
        rw [if_pos (by omega)] at hle
        by_cases f : fs.headD 0 % 2 = 0
        · rw [if_pos f] at hle ⊢
          omega
        · rw [if_neg f] at hle ⊢
          omega
      · rw [if_neg c]
        rw [if_neg (by omega)] at hle
        omega
end Wet
end
section
namespace Wet
/-! ### places of a ring as lists -/
def chi (n : Int) (l : List Int) : Fn := fun x => decide (x % n ∈ l)
def moved (n s : Int) (l : List Int) : List Int := addU [] (l.map fun p => (p + s) % n)
def times (n s : Int) (l : List Int) : List Int := isort ((l.filter fun p => !decide (p ∈ moved n s l)) ++ ((moved n s l).filter fun p => !decide (p ∈ l)))
structure InRing (n : Int) (l : List Int) : Prop where
  nd : l.Nodup
  lo : ∀ x ∈ l, 0 ≤ x
  hi : ∀ x ∈ l, x < n
theorem moved_mem {n s : Int} {l : List Int} {y : Int} : y ∈ moved n s l ↔ ∃ p ∈ l, (p + s) % n = y := by
  unfold moved
  rw [addU_mem, List.mem_map]
  simp
theorem moved_nodup (n s : Int) (l : List Int) : (moved n s l).Nodup := addU_nodup _ _ List.nodup_nil
theorem times_mem {n s : Int} {l : List Int} {y : Int} : y ∈ times n s l ↔ (y ∈ l ∧ ¬ y ∈ moved n s l) ∨ (y ∈ moved n s l ∧ ¬ y ∈ l) := by
  unfold times
  rw [(isort_perm _).mem_iff, List.mem_append, List.mem_filter, List.mem_filter]
  simp
theorem times_ring {n s : Int} (hn : 0 < n) {l : List Int} (h : InRing n l) : InRing n (times n s l) := by
  have mv : ∀ y ∈ moved n s l, 0 ≤ y ∧ y < n := by
    intro y hy
    obtain ⟨p, _, rfl⟩ := moved_mem.mp hy
    exact ⟨Int.emod_nonneg _ (by omega), Int.emod_lt_of_pos _ hn⟩
  refine ⟨?_, fun x hx => ?_, fun x hx => ?_⟩
  · unfold times
    rw [(isort_perm _).nodup_iff, List.nodup_append]
    refine ⟨List.filter_sublist.nodup h.nd, List.filter_sublist.nodup (moved_nodup n s l), fun a ha b hb e => ?_⟩
    subst e
    have h1 := (List.mem_filter.mp ha).1
    have h2 := (List.mem_filter.mp hb).2
    simp at h2
    exact h2 h1
  · rcases times_mem.mp hx with ⟨a, _⟩ | ⟨a, _⟩
    · exact h.lo x a
    · exact (mv x a).1
  · rcases times_mem.mp hx with ⟨a, _⟩ | ⟨a, _⟩
    · exact h.hi x a
    · exact (mv x a).2
theorem emod_sub (x s n : Int) : (x % n - s) % n = (x - s) % n := by
  have e : x - s = (x % n - s) + n * (x / n) := by
    have := Int.emod_add_mul_ediv x n
    omega
  rw [e, Int.add_mul_emod_self_left]
theorem moved_iff {n s : Int} (hn : 0 < n) {l : List Int} (h : InRing n l) (x : Int) : x % n ∈ moved n s l ↔ (x - s) % n ∈ l := by
  rw [moved_mem]
  constructor
  · rintro ⟨p, hp, e⟩
    have : (x - s) % n = p := by
      rw [← emod_sub, ← e, emod_sub]
      have e2 : p + s - s = p := by omega
      rw [e2]
      exact Int.emod_eq_of_lt (h.lo p hp) (h.hi p hp)
    rw [this]
    exact hp
  · intro hm
    refine ⟨(x - s) % n, hm, ?_⟩
    have e : ∀ a b : Int, (a % n + b) % n = (a + b) % n := by
      intro a b
      have := emod_sub a (-b) n
      have e1 : a % n - -b = a % n + b := by omega
      have e2 : a - -b = a + b := by omega
      rwa [e1, e2] at this
    rw [e]
    congr 1
    omega
theorem chi_times {n s : Int} (hn : 0 < n) {l : List Int} (h : InRing n l) : chi n (times n s l) = T s (chi n l) := by
  funext x
  unfold chi T
  have h1 := times_mem (n := n) (s := s) (l := l) (y := x % n)
  rw [moved_iff hn h] at h1
  by_cases a : x % n ∈ l <;> by_cases b : (x - s) % n ∈ l <;> simp [h1, a, b]
theorem nil_iff {n : Int} {l : List Int} (h : InRing n l) : l = [] ↔ chi n l = Z := by
  constructor
  · rintro rfl
    funext x
    simp [chi, Z]
  · intro e
    refine List.eq_nil_iff_forall_not_mem.mpr fun x hx => ?_
    have := congrFun e x
    unfold chi Z at this
    rw [Int.emod_eq_of_lt (h.lo x hx) (h.hi x hx)] at this
    simp [hx] at this
theorem ring_length {n : Nat} {l : List Int} (h : InRing n l) : l.length ≤ n := by
  have := List.Nodup.length_le_of_subset h.nd (l₂ := (List.range n).map fun (i : Nat) => (i : Int)) (fun x hx => ?_)
  · simpa using this
  · have h1 := h.lo x hx
    have h2 := h.hi x hx
    exact List.mem_map.mpr ⟨x.toNat, List.mem_range.mpr (by omega), by omega⟩
def placesTo (n : Int) (l : List Int) : List Int := l.foldl (fun p s => times n s p) [0]
theorem start_ring {n : Int} (hn : 0 < n) : InRing n [0] := ⟨by simp, by simp, by simp [hn]⟩
theorem fold_ring {n : Int} (hn : 0 < n) : ∀ (l p : List Int), InRing n p → InRing n (l.foldl (fun p s => times n s p) p) ∧ chi n (l.foldl (fun p s => times n s p) p) = Tl l (chi n p)
  | [], p, h => ⟨h, rfl⟩
  | s :: r, p, h => by
    obtain ⟨h1, h2⟩ := fold_ring hn r (times n s p) (times_ring hn h)
    refine ⟨h1, ?_⟩
    show chi n (r.foldl _ (times n s p)) = Tl r (T s (chi n p))
    rw [h2, chi_times hn h]
theorem places_ring {n : Int} (hn : 0 < n) (l : List Int) : InRing n (placesTo n l) := (fold_ring hn l [0] (start_ring hn)).1
theorem places_chi {n : Int} (hn : 0 < n) (l : List Int) : chi n (placesTo n l) = Tl l (dlt n) := by
  have := (fold_ring hn l [0] (start_ring hn)).2
  unfold placesTo
  rw [this]
  congr 1
  funext x
  simp [chi, dlt]
/-- the sizes told of a row, none for no folds -/
def toldA (fs : List Int) : List Int := if fs = [] then [] else told fs
theorem washed_told {fs : List Int} (hne : fs ≠ []) (hp : ∀ s ∈ steps fs, 0 < s) {n : Nat} (h : n < 90) (h0 : 0 < n) :
    (∀ spot : Nat, spot < n → times n (2 * (spot : Int) - fs.headD 0) (placesTo n (steps fs)) = []) ↔ (n : Int) ∈ toldA fs := by
  have n0 : (0 : Int) < (n : Int) := by omega
  have e := washed_iff hp h h0
  unfold toldA
  rw [if_neg hne, told_mem hp]
  constructor
  · intro q
    refine ⟨n0, e.mp fun spot hs => ?_⟩
    rw [← places_chi n0, ← chi_times n0 (places_ring n0 _)]
    exact (nil_iff (times_ring n0 (places_ring n0 _))).mp (q spot hs)
  · rintro ⟨_, q⟩ spot hs
    refine (nil_iff (times_ring n0 (places_ring n0 _))).mpr ?_
    rw [chi_times n0 (places_ring n0 _), places_chi n0]
    exact e.mpr q spot hs
theorem toldA_lt {fs : List Int} (hp : ∀ s ∈ steps fs, 0 < s) : (toldA fs).Pairwise (· < ·) := by
  unfold toldA
  split
  · exact List.Pairwise.nil
  · exact told_lt hp
theorem sum_nonneg : ∀ l : List Int, (∀ s ∈ l, 0 ≤ s) → 0 ≤ l.sum
  | [], _ => by simp
  | s :: r, h => by
    have := h s List.mem_cons_self
    have := sum_nonneg r fun x hx => h x (List.mem_cons_of_mem _ hx)
    simp only [List.sum_cons]
    omega
theorem toldA_le {fs : List Int} (hp : ∀ s ∈ steps fs, 0 < s) {x : Int} (h : x ∈ toldA fs) : 0 < x ∧ x ≤ (steps fs).sum + 2 := by
  unfold toldA at h
  split at h
  · cases h
  · exact ⟨((told_mem hp x).mp h).1, told_le hp h⟩
/-- the sizes below 90 by a look at each -/
def ringTo (fs : List Int) : Int := if 90 < 2 * (steps fs).sum + 3 then 90 else 2 * (steps fs).sum + 3
theorem sizes_eq {fs : List Int} (hp : ∀ s ∈ steps fs, 0 < s) :
    ((toldA fs).filter fun x => decide (x < 90)) = (((List.range (ringTo fs - 1).toNat).map fun (i : Nat) => 1 + (i : Int)).filter fun x => decide (x ∈ toldA fs)) := by
  have s0 := sum_nonneg (steps fs) (steps_nonneg fs)
  refine lt_unique (List.Pairwise.sublist List.filter_sublist (toldA_lt hp)) (List.Pairwise.sublist List.filter_sublist ?_) fun z => ?_
  · rw [List.pairwise_map]
    exact List.pairwise_lt_range.imp fun h => by omega
  · rw [List.mem_filter, List.mem_filter, List.mem_map, decide_eq_true_iff, decide_eq_true_iff]
    constructor
    · rintro ⟨h1, h2⟩
      obtain ⟨h3, h4⟩ := toldA_le hp h1
      refine ⟨⟨(z - 1).toNat, List.mem_range.mpr ?_, by omega⟩, h1⟩
      unfold ringTo
      split <;> omega
    · rintro ⟨⟨i, hi, rfl⟩, h2⟩
      refine ⟨h2, ?_⟩
      rw [List.mem_range] at hi
      unfold ringTo at hi
      split at hi <;> omega
/-! ### the greatest powers -/
def pows : List Int := [1, 2, 4, 8, 16, 32, 64, 128, 256]
theorem pows_mem {z : Int} (h : z ∈ pows) : ∃ i : Nat, i < 9 ∧ z = 2 ^ i ∧ pows[i]? = some z := by
  have key : ∀ z ∈ pows, ∃ i : Fin 9, z = 2 ^ i.val ∧ pows[i.val]? = some z := by decide
  obtain ⟨i, h1, h2⟩ := key z h
  exact ⟨i.val, i.isLt, h1, h2⟩
theorem pow_pows : ∀ i : Nat, i < 9 → (2 : Int) ^ i ∈ pows := by decide
def idx (o s : Int) : Int := (Nat.log2 (s / o).toNat : Int)
theorem idx_pow {o : Int} (ho : 0 < o) (i : Nat) : idx o (o * 2 ^ i) = i := by
  unfold idx
  rw [Int.mul_comm, Int.mul_ediv_cancel _ (by omega), pow_toNat, Nat.log2_two_pow]
def powersOf (fs : List Int) (o : Int) : List Int := (toldA fs).filter fun s => decide (s % o = 0) && decide (s / o ∈ pows)
def best (o : Int) (l : List Int) : Int := l.foldl (fun p s => if idx o s > p then idx o s else p) (-1)
theorem best_gen (o : Int) : ∀ (l : List Int) (p : Int), let r := l.foldl (fun p s => if idx o s > p then idx o s else p) p; p ≤ r ∧ (∀ s ∈ l, idx o s ≤ r) ∧ (r = p ∨ ∃ s ∈ l, idx o s = r)
  | [], p => ⟨Int.le_refl _, by simp, Or.inl rfl⟩
  | s :: r, p => by
    obtain ⟨h1, h2, h3⟩ := best_gen o r (if idx o s > p then idx o s else p)
    refine ⟨?_, fun x hx => ?_, ?_⟩
    · refine Int.le_trans ?_ h1
      split <;> omega
    · rcases List.mem_cons.mp hx with rfl | hx
      · refine Int.le_trans ?_ h1
        split <;> omega
      · exact h2 x hx
    · rcases h3 with e | ⟨x, hx, e⟩
      · by_cases c : idx o s > p
        · right
          refine ⟨s, List.mem_cons_self, ?_⟩
          rw [if_pos c] at e
          show idx o s = List.foldl _ (if idx o s > p then idx o s else p) r
          rw [if_pos c]
          exact e.symm
        · left
          rw [if_neg c] at e
          show List.foldl _ (if idx o s > p then idx o s else p) r = p
          rw [if_neg c]
          exact e
      · exact Or.inr ⟨x, List.mem_cons_of_mem _ hx, e⟩
theorem powers_mem {fs : List Int} (hne : fs ≠ []) (hp : ∀ s ∈ steps fs, 0 < s) {o : Int} (ho : 0 < o) (hodd : o % 2 = 1) {x : Int} : x ∈ powersOf fs o ↔ ∃ i : Nat, i < 9 ∧ x = o * 2 ^ i ∧ (2 : Int) ^ i ≤ weight fs o := by
  unfold powersOf toldA
  rw [if_neg hne, List.mem_filter, told_mem hp, Bool.and_eq_true, decide_eq_true_iff, decide_eq_true_iff]
  constructor
  · rintro ⟨⟨_, hw⟩, hd, hm⟩
    obtain ⟨i, hi, e, _⟩ := pows_mem hm
    have ex : x = o * 2 ^ i := by
      rw [← e]
      exact (Int.mul_ediv_cancel' (Int.dvd_of_emod_eq_zero hd)).symm
    obtain ⟨t1, t2⟩ := twos_of_mul ho hodd i
    rw [ex, t1, t2] at hw
    exact ⟨i, hi, ex, hw⟩
  · rintro ⟨i, hi, rfl, hw⟩
    obtain ⟨t1, t2⟩ := twos_of_mul ho hodd i
    refine ⟨⟨Int.mul_pos ho (two_pow_pos i), by rw [t1, t2]; exact hw⟩, Int.emod_eq_zero_of_dvd (Int.dvd_mul_right _ _), ?_⟩
    rw [Int.mul_comm, Int.mul_ediv_cancel _ (by omega)]
    exact pow_pows i hi
theorem best_powers {fs : List Int} (hp : ∀ s ∈ steps fs, 0 < s) (hsum : (steps fs).sum ≤ 500) {o : Int} (ho : 0 < o) (hodd : o % 2 = 1) : best o (powersOf fs o) = if fs = [] then -1 else powW (weight fs o) := by
  by_cases hne : fs = []
  · rw [if_pos hne]
    unfold powersOf toldA
    rw [if_pos hne]
    rfl
  · rw [if_neg hne]
    obtain ⟨h1, h2, h3⟩ := best_gen o (powersOf fs o) (-1)
    have wl := weight_le hp ho hodd
    have wn := weight_nonneg hp o
    have wl2 := Int.mul_le_mul_of_nonneg_right (show 1 ≤ o by omega) wn
    have p9 : powW (weight fs o) < 9 := by
      refine Int.lt_of_not_ge fun c => ?_
      have := (powW_iff (w := weight fs o) 9).mp (by omega)
      have e : (2 : Int) ^ 9 = 512 := by decide
      omega
    have pm : -1 ≤ powW (weight fs o) := by unfold powW; split <;> omega
    show (powersOf fs o).foldl _ (-1) = _
    by_cases c : powW (weight fs o) = -1
    · rcases h3 with e | ⟨s, hs, e⟩
      · rw [e, c]
      · obtain ⟨i, hi, rfl, hw⟩ := (powers_mem hne hp ho hodd).mp hs
        have := (powW_iff i).mpr hw
        omega
    · obtain ⟨j, hj⟩ := Int.eq_ofNat_of_zero_le (show 0 ≤ powW (weight fs o) by omega)
      have jm : o * 2 ^ j ∈ powersOf fs o := (powers_mem hne hp ho hodd).mpr ⟨j, by omega, rfl, (powW_iff j).mp (by omega)⟩
      have hle := h2 _ jm
      rw [idx_pow ho] at hle
      rcases h3 with e | ⟨s, hs, e⟩
      · rw [e] at hle
        omega
      · obtain ⟨i, hi, rfl, hw⟩ := (powers_mem hne hp ho hodd).mp hs
        rw [idx_pow ho] at e
        have := (powW_iff i).mpr hw
        rw [← e]
        rw [← e] at hle
        omega
end Wet
end
section
set_option maxRecDepth 100000
set_option maxHeartbeats 4000000
/-! ## sorted(set(a list of ints)): the set made of a list, told with its table -/
namespace Wet
open PySem PySem.Spec PyProof.Rows L2
/-- the empty set that set(..) begins with -/
abbrev oSet (w : World) : Obj := { cls := .type "set", dict := none, data := .set #[] 0 (.fresh 0 0 (!w.params.followText "set-order")) }
section
variable {P : Program} {w : World} {A : Around} {E : Value → Shared → Prop} {s : Shared}
/-- what the filling of the set leaves -/
def Filled (w : World) (s : Shared) (ns : List Int) (s2 : Shared) : Prop :=
  ∃ h' tk c, s2 = { s with heap := h', toks := tk } ∧ SetR w h' s.heap.objs.size (fun j => decide (j ∈ ns)) c ∧ c ≤ ns.length ∧ ∀ b o, s.heap.get? b = some o → h'.get? b = some o
theorem fill_set {l : Addr} {items : Array Value} (ns : List Int) (hh : A.handled = none) (hl : s.heap.IsList l items) (hit : IntsAre items.toList ns) (hb : ns.length + 1 < scanBound) :
    codeAny (model P w) A (.call (.builtin "set.__init__") ⟨[.ref s.heap.objs.size, .ref l], []⟩) (wants (fun r s2 => r = .none ∧ Filled w s ns s2) E) { s with heap := s.heap.push (oSet w) } := by
  have en : items.size = ns.length := by rw [← Array.length_toList]; exact IntsAre.length hit
  have g0 : (s.heap.push (oSet w)).get? s.heap.objs.size = some (oSet w) := Heap.get?_push_size _ rfl
  refine codeAny_call_builtin F.called_set.init.plain F.entry_set_init (check_set_init_1 (s := { s with heap := s.heap.push (oSet w) }) ⟨_, g0, rfl⟩ ?_)
  obtain ⟨⟨c0, d0, x0, z0⟩, gl, e1, n0, e2⟩ := hl
  dsimp only at e1 e2
  subst e1
  subst e2
  have gl' : (s.heap.push (oSet w)).get? l = some { cls := .type "list", dict := d0, data := .seq items n0, slots := z0 } := Heap.get?_push_of_some _ gl
  have q1 := F.sub_list_set
  have q2 := F.sub_list_frozenset
  have q3 : (Value.type "list" == Value.type "dict") = false := by decide
  have isl : (s.heap.push (oSet w)).IsList l items := ⟨_, gl', rfl, n0, rfl⟩
  have ll : l < s.heap.objs.size := Heap.lt_size gl
  unfold Builtin.«set.__init__»
  unfold noKeywords Builtin.Frozenset.updateFrom
  generalize hP : pyIter = walker
  wp_walk
  subst hP
  refine wpAny_pyIter_list isl (wpAny_bind (wpAny_runValue ?_))
  have h3 : A.in1.in1.handled = none := by simp [hh]
  have sz1 : (s.heap.push (oSet w)).objs.size = s.heap.objs.size + 1 := Heap.size_push ..
  have n1 : l ≠ (s.heap.push (oSet w)).objs.size := by
    rw [sz1]
    exact Nat.ne_of_lt (Nat.lt_succ_of_lt ll)
  have n2 : s.heap.objs.size ∉ [(s.heap.push (oSet w)).objs.size, l] := by
    rw [sz1]
    intro hm
    rcases List.mem_cons.mp hm with e | e
    · exact absurd e (Nat.ne_of_lt (Nat.lt_succ_self _))
    · exact absurd (List.mem_singleton.mp e) (Nat.ne_of_gt ll)
  have val : ∀ (i : Nat) (v : Value), items[i]? = some v → ∃ k t, ns[i]? = some k ∧ v = .int k t := by
    intro i v hv
    have hi : i < ns.length := en ▸ (Array.getElem?_eq_some_iff.mp hv).1
    obtain ⟨t, e⟩ := IntsAre.int_at hit i v (by rw [Array.getElem?_toList]; exact hv)
    refine ⟨ns[i], t, List.getElem?_eq_getElem hi, ?_⟩
    rw [e]
    congr 1
    simp [hi]
  refine set_update_ints ((Walks.list h3 _ l n1 items).toS) s.heap.objs.size n2 ns en hb val (items.size - 0) 0 _ (by omega) (by omega) ?begun ⟨0, Nat.le_refl 0, ?empty⟩ ?_
  case begun => exact ⟨⟨_, Heap.get?_push_size _ rfl, rfl, rfl⟩, isl.push _⟩
  case empty => exact setR_new_at (Heap.get?_push_of_some _ g0)
  rintro ⟨h', g', d', t', o'⟩ c mv hc hS
  obtain rfl : g' = s.gens := mv.gens
  obtain rfl : d' = s.drawn := mv.drawn
  obtain rfl : o' = s.os := mv.os
  show wpAny _ _ _ _ _ _
  refine wpAny_pure (show wpAny _ _ (ret Value.none) _ _ _ from ?_)
  refine wpAny_pure ⟨rfl, h', t', c, rfl, hS, en ▸ hc, fun b o e => ?_⟩
  have lb : b < s.heap.objs.size := Heap.lt_size e
  refine mv.heap b o (fun hm => ?_) (Heap.get?_push_of_some _ (Heap.get?_push_of_some _ e))
  rcases List.mem_cons.mp hm with z | z
  · exact Nat.ne_of_lt lb z
  · have z' := List.mem_singleton.mp z
    rw [z', sz1] at lb
    exact absurd lb (Nat.not_lt_of_le (Nat.le_succ _))
theorem call_set_ints {l : Addr} {items : Array Value} (ns : List Int) {Q : Value → Shared → Prop} (hh : A.handled = none) (hl : s.heap.IsList l items) (hit : IntsAre items.toList ns) (hb : ns.length + 1 < scanBound)
    (h : ∀ s2, Filled w s ns s2 → Q (.ref s.heap.objs.size) s2) : wpAny (model P w) A (call (.type "set") [.ref l]) Q E s := by
  obtain ⟨c, tl, hmro⟩ := F.called_set.mro
  have f1 := F.called_set.made
  have f2 := F.called_set.sub
  have f3 := F.called_set.notType
  have f4 := F.called_set.canCreate
  have f5 := F.typeCall_set_1 (.ref l)
  refine wpAny_call (codeAny_of_tree (show wpAny _ _ (callAny (.type "set") _) _ _ _ from ?_))
  refine wpAny_pure ⟨Code.quiet_builtin _ (by decide +kernel), ?_⟩
  refine codeAny_builtin F.entry_type_call ?_
  rw [Around.under_plain (weight_type_call_type "set" [.ref l] []) rfl]
  repeat (any_goals first | assumption | wp_step)
  refine codeAny_mono (code_set_led1 (.ref l) (E := E) (Q₁ := fun v s1 => v = .ref s.heap.objs.size ∧ s1 = { s with heap := s.heap.push (oSet w) }) ⟨rfl, rfl⟩) fun r s1 hr => ?_
  cases r with
  | error e => exact hr
  | ok fl =>
    cases fl with
    | ret v =>
      obtain ⟨rfl, rfl⟩ := hr
      have g0 : (s.heap.push (oSet w)).get? s.heap.objs.size = some (oSet w) := Heap.get?_push_size _ rfl
      have ty : Shared.TypeIs { s with heap := s.heap.push (oSet w) } (.ref s.heap.objs.size) "set" := ⟨_, g0, rfl⟩
      have f6 := F.called_set.init.lookup
      have f7 := F.called_set.init.bind (.ref s.heap.objs.size)
      repeat (any_goals first | assumption | wp_step)
      refine codeAny_mono (fill_set (E := E) ns (by simp [hh]) hl hit hb) fun r2 s2 hr2 => ?_
      cases r2 with
      | error e => exact hr2
      | ok fl2 =>
        cases fl2 with
        | ret v2 =>
          obtain ⟨rfl, hf⟩ := hr2
          repeat (any_goals first | assumption | wp_step)
          exact h _ hf
        | _ => exact hr2.elim
    | _ => exact hr.elim
end
end Wet
end
section
set_option maxRecDepth 100000
set_option maxHeartbeats 4000000
/-! ## {**a, **b}: two dicts put into a new one -/
namespace Wet
open PySem PySem.Spec PyProof.Rows L2
section
variable {P : Program} {w : World} {A : Around} {E : Value → Shared → Prop} {s : Shared} {κ : Type} [DecidableEq κ] {knd : KeyKind P w κ}
/-- dictPut: a pair put at a key -/
theorem put_pair {d : Addr} {kvs : List (κ × Value)} {k : κ} {key v : Value} {Q : Unit → Shared → Prop} (hk : knd.is k key = true) (hd : s.heap.DictOf knd d kvs) (hz : kvs.length ≤ sizeLine)
    (hQ : ∀ h', h'.DictOf knd d (stored kvs k v) → Heap.SameBut d s.heap h' → Q () { s with heap := h' }) : wpAny (model P w) A (dictPut d (knd.hash k) key v) Q E s := by
  obtain ⟨o, es, ep, ho, hc, hx, hkk, hp, hn⟩ := hd
  unfold dictPut
  refine wpAny_bind (wpAny_dictFind_of hk ho hx hkk ?_)
  have esz : es.size ≤ sizeLine := by
    have e1 := hp.length
    have e2 : es.toList.length = es.size := Array.length_toList
    omega
  have same : (es.findIdx? fun e => knd.is k e.key) = kvs.findIdx? fun kv => decide (kv.1 = k) := by
    rw [← hp.findIdx k]
    cases es
    simp
  cases hi : es.findIdx? fun e => knd.is k e.key with
  | some i =>
    have he := any_of_findIdx_some (same ▸ hi)
    have hl : (es.toList.findIdx? fun e => knd.is k e.key) = some i := by
      rw [← hi]
      cases es
      simp
    have pm := hp.modify hn hl v
    refine wpAny_updateDict ho hx (hQ _ ⟨_, _, ep, Heap.get?_update_self _ ho (Obj.isFreed_of_dict (Obj.data_mapDict hx _)), hc.mapDict _, Obj.data_mapDict hx _, hkk.modify _ _, ?_, ?_⟩ (Heap.SameBut.update ..))
    · rw [stored, if_pos he]
      cases es
      simpa using pm
    · rw [stored, if_pos he, keys_map_store]
      exact hn
  | none =>
    have out : k ∉ kvs.map (·.1) := not_mem_of_findIdx_none (same ▸ hi)
    have he : ¬ (kvs.any fun kv => decide (kv.1 = k)) = true := by
      intro q
      obtain ⟨kv, h1, h2⟩ := List.any_eq_true.mp q
      exact out (List.mem_map.mpr ⟨kv, h1, of_decide_eq_true h2⟩)
    have pm := hp.append hk (knd.hash k) v
    refine wpAny_updateDictKeys (hz := esz) ho hx (hQ _ ⟨_, _, ep + 1, Heap.get?_update_self _ ho (Obj.isFreed_of_dict (Obj.data_mapDictKeys hx _)), hc.mapDictKeys _, Obj.data_mapDictKeys hx _, hkk.push hk _, ?_, ?_⟩ (Heap.SameBut.update ..))
    · rw [stored, if_neg he]
      cases es
      simpa using pm
    · rw [stored, if_neg he, List.map_append, List.nodup_append]
      refine ⟨hn, by simp, fun a ha b hb e => out ?_⟩
      have e2 : a = k := by rw [e, List.mem_singleton.mp hb]
      exact e2 ▸ ha
/-- the turn over the entries of the second dict, while no key is an object -/
theorem quiet_keys {β : Type} {es : Array DictEntry} {f : DictEntry → PUnit → Sem (ForInStep PUnit)} {g : PUnit → Sem β} {Q : β → Shared → Prop} (hf : ∀ e ∈ es, f e PUnit.unit = pure (.yield PUnit.unit)) (h : wpAny (model P w) A (g PUnit.unit) Q E s) :
    wpAny (model P w) A (forIn es PUnit.unit f >>= g) Q E s := by
  refine wpAny_bind ?_
  rw [← Array.forIn_toList]
  refine wpAny_forIn_list f (fun l _ s' => s' = s ∧ ∀ e ∈ l, e ∈ es) _ (fun x rest b s' hI => ?_) (fun b s' hI => ?_) es.toList PUnit.unit ⟨rfl, fun e he => Array.mem_toList_iff.mp he⟩
  · obtain ⟨rfl, hm⟩ := hI
    cases b
    rw [hf x (hm x List.mem_cons_self)]
    exact wpAny_pure ⟨rfl, fun e he => hm e (List.mem_cons_of_mem _ he)⟩
  · obtain ⟨rfl, _⟩ := hI
    exact h
end
section
variable {P : Program} {w : World} {A : Around} {E : Value → Shared → Prop} {s : Shared}
theorem mix_noref {k : Key} {v : Value} (h : (mixKind P w).is k v = true) : (∃ i t, v = .int i t) ∨ ∃ x t, v = .str x t := by
  rcases keyIs_shape (show keyIs k v = true from h) with ⟨i, t, _, rfl⟩ | ⟨x, t, _, rfl⟩
  · exact Or.inl ⟨i, t, rfl⟩
  · exact Or.inr ⟨x, t, rfl⟩
theorem merge_plain {d a : Addr} {kvs more : List (Key × Value)} {Q : Unit → Shared → Prop} (hne : d ≠ a) (hsys : (a == sysModules) = false) (hd : s.heap.DictOf (mixKind P w) d kvs) (ha : s.heap.DictOf (mixKind P w) a more) (hz : kvs.length + more.length ≤ sizeLine)
    (hQ : ∀ h', h'.DictOf (mixKind P w) d (merged kvs more) → Heap.SameBut d s.heap h' → Q () { s with heap := h' }) : wpAny (model P w) A (mergeMapping d (.ref a) false) Q E s := by
  have ty := ha.typeIs
  obtain ⟨od, esd, epd, hod, hcd, hxd, hkd, hpd, hnd⟩ := id hd
  obtain ⟨oa, esa, epa, hoa, hca, hxa, hka, hpa, hna⟩ := id ha
  have elen : more.length = esa.size := by rw [← hpa.length]; exact Array.length_toList
  unfold mergeMapping
  refine wpAny_bind (wpAny_isInstance ty isSubtype_dict_dict ?_)
  dsimp only
  rw [if_pos rfl]
  refine wpAny_bind (wpAny_specialOf ty F.slot_dict_iter.lookup ?_)
  refine wpAny_bind (wpAny_pure ?_)
  simp only [beq_self_eq_true]
  rw [if_neg (by rw [hsys]; exact Bool.false_ne_true)]
  -- the entries one by one
  have loop : wpAny (model P w) A (do
      let l ← dictEntries a
      let epoch ← dictEpoch a
      forIn (List.range l.size) PUnit.unit fun i (_ : PUnit) => (do
          let l' ← dictEntries a
          match l'[i]? with
            | some e => do
              holding [e.key, e.val] (dictPut d e.hash e.key e.val)
              let ep' ← dictEpoch a
              if (ep' != epoch) = true then do
                  (unsupported "dict.changed-during-merge" : Sem PUnit)
                  pure (ForInStep.yield PUnit.unit)
                else pure (ForInStep.yield PUnit.unit)
            | _ => do
              (unsupported "dict.changed-during-merge" : Sem PUnit)
              pure (ForInStep.yield PUnit.unit) : Sem (ForInStep PUnit))
      pure ()) Q E s := by
    refine wpAny_bind (wpAny_dictEntries hoa hxa ?_)
    refine wpAny_bind (wpAny_dictEpoch hoa hxa ?_)
    refine wpAny_bind ?_
    refine wpAny_forIn_list _ (fun l _ s' => ∃ h' i, s' = { s with heap := h' } ∧ l = (List.range esa.size).drop i ∧ i ≤ esa.size ∧ h'.DictOf (mixKind P w) d (merged kvs (more.take i)) ∧ h'.get? a = some oa ∧ Heap.SameBut d s.heap h')
      _ ?_ ?_ _ _ ⟨s.heap, 0, rfl, rfl, Nat.zero_le _, by simpa [merged] using hd, hoa, Heap.SameBut.refl _ _⟩
    · rintro x rest b s' ⟨h', i, rfl, hr, hi, hd', hoa', hs'⟩
      have lt : i < esa.size := by
        refine Nat.lt_of_not_le fun hle => ?_
        rw [List.drop_of_length_le (by simpa using hle)] at hr
        cases hr
      rw [List.drop_eq_getElem_cons (by simpa using lt)] at hr
      obtain ⟨rfl, rfl⟩ := List.cons.inj hr
      rw [List.getElem_range]
      refine wpAny_bind (wpAny_dictEntries hoa' hxa ?_)
      rw [Array.getElem?_eq_getElem lt]
      obtain ⟨⟨k, v⟩, hkv⟩ : ∃ kv, more[i]? = some kv := ⟨more[i]'(by omega), List.getElem?_eq_getElem _⟩
      obtain ⟨hk1, hv1⟩ := hpa.get? (e := esa[i]) (by simp [lt]) hkv
      obtain ⟨k', hk2, hh⟩ := hka esa[i] (Array.getElem_mem lt)
      obtain rfl : k' = k := (mixKind P w).inj _ _ _ hk2 hk1
      dsimp only
      rw [hh, hv1]
      have room : (merged kvs (more.take i)).length ≤ sizeLine := by
        have e1 := merged_length_le kvs (more.take i)
        have e2 : (more.take i).length ≤ more.length := by rw [List.length_take]; omega
        omega
      refine wpAny_bind (wpAny_holding (put_pair hk1 hd' room fun h2 hd2 hs2 => ?_))
      have hoa2 : h2.get? a = some oa := (hs2.2 a (Ne.symm hne)).trans hoa'
      refine wpAny_bind (wpAny_dictEpoch hoa2 hxa ?_)
      rw [if_neg (by simp)]
      exact wpAny_pure ⟨h2, i + 1, rfl, rfl, lt, by rw [merged_take_succ kvs more i (k', v) hkv]; exact hd2, hoa2, hs'.trans hs2⟩
    · rintro b s' ⟨h', i, rfl, hr, hi, hd', hoa', hs'⟩
      have e : i = esa.size := by
        refine Nat.le_antisymm hi (Nat.le_of_not_lt fun lt => ?_)
        rw [List.drop_eq_getElem_cons (by simpa using lt)] at hr
        cases hr
      refine wpAny_pure (hQ h' ?_ hs')
      rw [e, ← elen, List.take_length] at hd'
      exact hd'
  refine wpAny_bind (wpAny_dictEntries hod hxd ?_)
  by_cases c : esd.isEmpty = true
  · rw [if_pos c]
    refine wpAny_bind (wpAny_dictEntries hoa hxa ?_)
    refine quiet_keys (fun e he => ?_) ?_
    · obtain ⟨k, hk, _⟩ := hka e he
      rcases mix_noref hk with ⟨i, t, q⟩ | ⟨x, t, q⟩ <;> rw [q]
    · exact loop
  · rw [if_neg c]
    exact loop
end
end Wet
end
section
set_option maxRecDepth 100000
set_option maxHeartbeats 4000000
/-! ## the rules of the layer: {**a, **b}; sorted(set(a)) -/
namespace Wet
open PySem PySem.Spec PyProof.Rows L2
section
variable {P : Program} {w : World} {A : Around} {E : Value → Shared → Prop} {s : Shared}
theorem guarded {α : Type} {m : Sem α} {k1 k3 : Value → Sem Unit} {k2 : Value → Sem α} {Q : α → Shared → Prop} (h : wpAny (model P w) A m Q (fun _ _ => False) s) :
    wpAny (model P w) A (((m.onRaise k1).tryCatch k2).onRaise k3) Q E s :=
  wpAny_onRaise (wpAny_tryCatch (wpAny_onRaise (wpAny_mono h (fun _ _ q => q) fun _ _ f => f.elim)))
theorem display_two {m1 m2 : Sem Value} {Q : Value → Shared → Prop}
    (h : wpAny (model P w) A m1 (fun v1 s1 => ∃ a1 k1, v1 = .ref a1 ∧ s.heap.objs.size ≠ a1 ∧ (a1 == sysModules) = false ∧ s1.heap.DictOf (mixKind P w) s.heap.objs.size [] ∧ s1.heap.DictOf (mixKind P w) a1 k1 ∧ k1.length ≤ sizeLine ∧
      ∀ h1, h1.DictOf (mixKind P w) s.heap.objs.size (merged [] k1) → Heap.SameBut s.heap.objs.size s1.heap h1 →
        wpAny (model P w) A m2 (fun v2 s2 => ∃ a2 k2 k3, v2 = .ref a2 ∧ s.heap.objs.size ≠ a2 ∧ (a2 == sysModules) = false ∧ s2.heap.DictOf (mixKind P w) s.heap.objs.size k3 ∧ s2.heap.DictOf (mixKind P w) a2 k2 ∧ k3.length + k2.length ≤ sizeLine ∧
          ∀ h2, h2.DictOf (mixKind P w) s.heap.objs.size (merged k3 k2) → Heap.SameBut s.heap.objs.size s2.heap h2 → Q (.ref s.heap.objs.size) { s2 with heap := h2 }) E { s1 with heap := h1 }) E
      { s with heap := s.heap.push { cls := .type "dict", data := .dict #[] } }) :
    wpAny (model P w) A (dictDisplay [(none, m1), (none, m2)]) Q E s := by
  unfold dictDisplay
  dsimp only
  rw [List.forIn_cons]
  simp only [List.isEmpty_nil, if_true]
  refine wpAny_bind ?_
  refine wpAny_bind ?_
  refine wpAny_bind (wpAny_pure ?_)
  refine wpAny_bind (wpAny_alloc ?_)
  refine wpAny_bind (wpAny_holding (wpAny_mono h (fun v1 s1 ⟨a1, k1, e1, n1, y1, d1, x1, z1, q1⟩ => ?_) fun _ _ e => e))
  subst e1
  refine wpAny_bind (guarded (wpAny_holding (merge_plain n1 y1 d1 x1 (by simpa using z1) fun h1 g1 b1 => ?_)))
  refine wpAny_pure ?_
  dsimp only
  rw [List.forIn_cons]
  refine wpAny_bind ?_
  dsimp only
  simp only [List.isEmpty_nil, if_true]
  refine wpAny_bind (wpAny_pure ?_)
  dsimp only
  refine wpAny_bind (wpAny_pure ?_)
  refine wpAny_bind (wpAny_holding (wpAny_mono (q1 h1 g1 b1) (fun v2 s2 ⟨a2, k2, k3, e2, n2, y2, d2, x2, z2, q2⟩ => ?_) fun _ _ e => e))
  subst e2
  refine wpAny_bind (guarded (wpAny_holding (merge_plain n2 y2 d2 x2 z2 fun h2 g2 b2 => ?_)))
  refine wpAny_pure ?_
  dsimp only
  rw [List.forIn_nil]
  refine wpAny_pure ?_
  simp only [List.isEmpty_nil, if_true]
  refine wpAny_bind (wpAny_pure ?_)
  exact wpAny_pure (q2 h2 g2 b2)
end
/-- a list of the ints fs stands at a -/
abbrev LstAt' (H : Hp) (a : Addr) (fs : List Int) : Prop := H a = some (.lst (fs.map V.int))
section
variable {X : Cx}
/-- {**a, **b}, dicts with ints and texts as keys; the new dict stands while b is reckoned -/
def tMerge (ta tb : TE) : TE := fun σ H Q => ∀ d, H d = none → ta σ (upd H d (.dK [])) fun x H1 => ∃ a1 k1, x = .ref a1 ∧ d ≠ a1 ∧ H1 d = some (.dK []) ∧ H1 a1 = some (.dK k1) ∧
  tb σ (upd H1 d (.dK (mergeK [] k1))) fun y H2 => ∃ a2 k2, y = .ref a2 ∧ d ≠ a2 ∧ H2 d = some (.dK (mergeK [] k1)) ∧ H2 a2 = some (.dK k2) ∧ (mergeK [] k1).length + k2.length ≤ sizeLine ∧ Q (.ref d) (upd H2 d (.dK (mergeK (mergeK [] k1) k2)))
theorem pe_dmerge {a b : Expr} {ta tb : TE} {pos : Pos} (ha : PE X a ta) (hb : PE X b tb) : PE X (.Dict [none, none] [a, b] pos) (tMerge ta tb) := by
  refine ⟨fun pins s σ H Q I h => ?_⟩
  rw [arm_eval_Dict]
  refine wpAny_bind (wpAny_standAt ?_)
  have hn := I.hok.fresh (Nat.le_refl s.heap.objs.size)
  have I1 := I.laid (a := s.heap.objs.size) (o := .dK []) (h' := s.heap.push { cls := .type "dict", data := .dict #[] }) (t' := s.toks) (fun _ _ q => Heap.get?_push_of_some _ q) (Nat.le_refl _) (dk_empty s.heap I.big)
  show wpAny _ _ (dictDisplay [(none, do let x ← eval a X.env; standAt pos; pure x), (none, do let x ← eval b X.env; standAt pos; pure x)]) _ _ _
  refine display_two (wpAny_bind (thn (ha.run pins _ σ _ _ I1 (h _ hn)) fun v1 s1 ⟨x, H1, J1, r1, a1, k1, e1, n1, d1, x1, q1⟩ => wpAny_bind (wpAny_standAt (wpAny_pure ?_))))
  subst e1
  cases r1
  obtain ⟨z1, y0, vs0, p0, o0⟩ := dk_of J1.hok d1
  obtain ⟨z2, y1, vs1, p1, o1⟩ := dk_of J1.hok x1
  cases p0
  refine ⟨a1, vs1, rfl, n1, y1, o0, o1, by rw [← p1.length]; exact z2, fun h1 g1 b1 => ?_⟩
  have pm := p1.merge (kvs := []) (vs := []) .nil
  have zm : (mergeK [] k1).length ≤ sizeLine := by
    have := length_mergeK k1 []
    simp at this
    omega
  have ex1 : ∃ u, h1.get? s.heap.objs.size = some u := let ⟨u, _, _, hu, _⟩ := g1; ⟨u, hu⟩
  have J2 := d_write (t' := s1.toks) J1 (by rw [d1]; exact True.intro) b1 ex1 (dk_new zm y0 pm g1)
  refine wpAny_bind (thn (hb.run pins _ σ _ _ J2 q1) fun v2 s2 ⟨y, H2, J3, r2, a2, k2, e2, n2, d2, x2, z3, q2⟩ => wpAny_bind (wpAny_standAt (wpAny_pure ?_)))
  subst e2
  cases r2
  obtain ⟨_, y2, vs2, p2, o2⟩ := dk_of J3.hok d2
  obtain ⟨z5, y3, vs3, p3, o3⟩ := dk_of J3.hok x2
  have zf : (mergeK (mergeK [] k1) k2).length ≤ sizeLine := Nat.le_trans (length_mergeK _ _) z3
  refine ⟨a2, vs3, vs2, rfl, n2, y3, o2, o3, by rw [← p2.length, ← p3.length]; exact z3, fun h2 g2 b2 => ?_⟩
  have ex2 : ∃ u, h2.get? s.heap.objs.size = some u := let ⟨u, _, _, hu, _⟩ := g2; ⟨u, hu⟩
  exact ⟨.ref s.heap.objs.size, _, d_write (t' := s2.toks) J3 (by rw [d2]; exact True.intro) b2 ex2 (dk_new zf y0 (p3.merge p2) g2), rfl, q2⟩
/-- set(a list of ints) -/
def rSetI (K : PySem.W.Frag) (w : World) : List V → Hp → VK → Prop := fun vs H Q => ∃ (l : Addr) (ns : List Int), vs = [.ref l] ∧ SqL K H l (ns.map V.int) ∧ ns.length ≤ 4000 ∧
  ∀ a c, H a = none → c ≤ ns.length → Q (.ref a) (upd H a (SetO w a (fun j => decide (j ∈ ns)) c))
theorem cr_setI (hc : X.calm = true) : CallR X (.type "set") (rSetI X.K X.w) := by
  intro pins s σ H xs us Q I r h
  obtain ⟨l, ns, rfl, hq, hl, q⟩ := h
  obtain ⟨u, rfl, ru⟩ := vals1 r
  cases ru
  obtain ⟨its, rv, pl, _⟩ := I.list hq
  refine call_set_ints ns (I.ok.hd hc) pl.isList (by simpa using ints_of_vals rv) (by unfold scanBound; omega) fun s2 hf => ?_
  obtain ⟨h', tk, c, rfl, hS, hcl, hk⟩ := hf
  exact ⟨.ref s.heap.objs.size, _, I.laid (t' := tk) hk (Nat.le_refl _) (setO_new hS), rfl, q _ c (I.hok.fresh (Nat.le_refl _)) hcl⟩
/-- sorted(set(a list of ints)) -/
def rSortSet (K : PySem.W.Frag) (w : World) : V → Hp → VK → Prop := fun x H Q => rSetI K w [x] H fun v H2 => rSortedSet w [v] H2 Q
def tSortSet (K : PySem.W.Frag) (w : World) (te : TE) : TE := fun σ H Q => te σ H fun x H1 => rSortSet K w x H1 Q
theorem pe_sortedSet {a : Expr} {ta : TE} {p p2 q pos : Pos} (hg : Gl X "sorted") (hm : X.mg "sorted" = none) (hg2 : Gl X "set") (hm2 : X.mg "set" = none) (ha : PE X a ta) (hc : X.calm = true := by rfl)
    (n1 : starEach [Expr.Call (.Name "set" p2) [a] [] q] X.env = (false, eval (.Call (.Name "set" p2) [a] [] q) X.env) :: starEach [] X.env := by rfl)
    (n2 : starEach [a] X.env = (false, eval a X.env) :: starEach [] X.env := by rfl) : PE X (.Call (.Name "sorted" p) [.Call (.Name "set" p2) [a] [] q] [] pos) (tSortSet X.K X.w ta) := by
  have h : PE X (.Call (.Name "sorted" p) [.Call (.Name "set" p2) [a] [] q] [] pos) (tCB (rSortedSet X.w) (tCons (tCB (rSetI X.K X.w) (tCons ta tNil)) tNil)) :=
    pe_callB (cr_sortedSet hc) hg hm PyProof.Rows.boot_sorted (pa_cons (pe_callTy (cr_setI hc) hg2 hm2 PyProof.Rows.boot_set (pa_cons ha pa_nil n2) (he := n2)) pa_nil n1) (he := n1)
  exact h
theorem sortSet_ok {K : PySem.W.Frag} {w : World} {l : Addr} {ns : List Int} {H : Hp} {Q : VK} (h : SqL K H l (ns.map V.int)) (hl : ns.length < 64) (k : ∀ p H2, H p = none → Same H H2 → LstAt' H2 p (sset ns) → Q (.ref p) H2) : rSortSet K w (.ref l) H Q := by
  refine ⟨l, ns, rfl, h, by omega, fun a c ha hc => ⟨a, _, c, rfl, upd_same, by omega, fun ms p h1 h2 _ hp => ?_⟩⟩
  have e : ms = sset ns := lt_unique h1 (sset_lt ns) fun z => by rw [h2, sset_mem, decide_eq_true_iff]
  subst e
  exact k p _ (Same.free (same_new (Same.refl H) ha) hp) (same_new' (same_new (Same.refl H) ha) hp) upd_same
end
end Wet
end
section
set_option maxRecDepth 100000
namespace Wet
open PySem L2
theorem walk_zipT {K : PySem.W.Frag} {a b : Addr} {xs ys : List V} {n : Nat} (hn : n = min xs.length ys.length) : Walk (RZ.ItzT K a b) n (fun H => SqT K H a xs ∧ SqT K H b ys) (YPair (fun i => xs[i]?) (fun i => ys[i]?)) := by
  subst hn
  refine ⟨fun i H hi q => ?_, fun H q => ⟨xs, ys, q.1, q.2, by omega⟩, fun i H v H' hi q y => ?_⟩
  · exact ⟨xs, ys, xs[i]'(by omega), ys[i]'(by omega), q.1, q.2, List.getElem?_eq_getElem _, List.getElem?_eq_getElem _⟩
  · obtain ⟨U, x, z, h1, h2, h3, h4, h5⟩ := y
    exact ⟨U, x, z, h1, h2, h3, h4 xs q.1, h5 ys q.2⟩
section
variable {P : Program} {w : World} {K : PySem.W.Frag} {mg : Str → Option Value} {base : Heap}
/-! ## strips -/
abbrev s_is_tuple_of : Stmt := top 8
abbrev n_is_tuple_of : List Str := ["value", "low", "high"]
abbrev p_is_tuple_of : List Str := ["value", "low", "high"]
theorem sc_is_tuple_of : FnScope n_is_tuple_of p_is_tuple_of (defScope s_is_tuple_of) := ⟨rfl, rfl, rfl, by decide +kernel, rfl, by decide +kernel, by decide +kernel⟩
/-- a tuple of the ints fs stands at a (it was made by the call) -/
def TupAt (H : Hp) (a : Addr) (fs : List Int) : Prop := H a = some (.tup (fs.map V.int))
theorem TupAt.sq {H : Hp} {a : Addr} {fs : List Int} (h : TupAt H a fs) : SqT K H a (fs.map V.int) := SqT.of h
theorem TupAt.same {H H' : Hp} {a : Addr} {fs : List Int} (h : TupAt H a fs) (s : Same H H') : TupAt H' a fs := s _ _ h
def LstAt (H : Hp) (a : Addr) (fs : List Int) : Prop := H a = some (.lst (fs.map V.int))
theorem LstAt.sq {H : Hp} {a : Addr} {fs : List Int} (h : LstAt H a fs) : SqL K H a (fs.map V.int) := SqL.of h
theorem LstAt.same {H H' : Hp} {a : Addr} {fs : List Int} (h : LstAt H a fs) (s : Same H H') : LstAt H' a fs := s _ _ h
def sp_is_tuple_of : Sp := fun vs H Q _ => ∃ (a : Addr) (fs : List Int) (lo hi : Int), vs = [.ref a, .int lo, .int hi] ∧ TupAt H a fs ∧ lo ≤ fs.length ∧ fs.length ≤ hi ∧ Q (.bl true) H
theorem ok_is_tuple_of {f : Addr} {fd : FuncData} (F : Fun K "is_tuple_of" "is_tuple_of" s_is_tuple_of f fd) (T : Bt mg) : FnOk P w K mg base CX0 1 f fd p_is_tuple_of sp_is_tuple_of := by
  refine F.ok sc_is_tuple_of (fun vs H Q E h => ?_) (fun cdv A outer s H vs Q E hr h => ?_)
  · obtain ⟨a, fs, lo, hi, rfl, _⟩ := h
    rfl
  · obtain ⟨a, fs, lo, hi, rfl, ht, h1, h2, k⟩ := h
    refine ⟨_, (pss_one (ps_ret (pe_and (pe_callB call_isi (by rfl) T.isinstance PyProof.Rows.boot_isinstance (pa_cons (pv 0) (pa_cons (pe_bltn (v := .ty "tuple") (by rfl) T.tuple PyProof.Rows.boot_tuple rfl) pa_nil))) (pe_one (pe_chain op_le op_le (pv 1) (pe_callB call_len_seq (by rfl) T.len PySem.boot_len (pa_cons (pv 0) pa_nil)) (pv 2)))))), ?_⟩
    refine ⟨_, rfl, _, _, _, _, true, rfl, .ty "tuple", .base (.tup ht), kit_ty (by decide +kernel), true, rfl, iteT ?_⟩
    refine ⟨_, rfl, _, rfl, a, _, rfl, .inr ht.sq, _, _, rfl, rfl, true, ?_, iteT ?_⟩
    · rw [List.length_map]
      exact congrArg V.bl (decide_eq_true h1)
    · refine ⟨_, rfl, _, _, rfl, rfl, ?_⟩
      show Q (V.bl (decide (((fs.map V.int).length : Int) ≤ hi))) H
      rw [List.length_map, decide_eq_true h2]
      exact k
abbrev s_fits_crease : Stmt := top 9
abbrev n_fits_crease : List Str := ["value"]
abbrev p_fits_crease : List Str := ["value"]
theorem sc_fits_crease : FnScope n_fits_crease p_fits_crease (defScope s_fits_crease) := ⟨rfl, rfl, rfl, by decide +kernel, rfl, by decide +kernel, by decide +kernel⟩
def Crease (v : Int) : Prop := -1000000 ≤ v ∧ v ≤ 1000000
instance (v : Int) : Decidable (Crease v) := inferInstanceAs (Decidable (_ ∧ _))
def sp_fits_crease : Sp := fun vs H Q _ => ∃ v : Int, vs = [.int v] ∧ Crease v ∧ Q (.bl true) H
theorem ok_fits_crease {f : Addr} {fd : FuncData} (F : Fun K "fits_crease" "fits_crease" s_fits_crease f fd) (T : Bt mg) (Cis_whole : Df P w K mg base "is_whole" 1 p_is_whole sp_is_whole) : FnOk P w K mg base CX0 2 f fd p_fits_crease sp_fits_crease := by
  refine F.ok sc_fits_crease (fun vs H Q E h => ?_) (fun cdv A outer s H vs Q E hr h => ?_)
  · obtain ⟨v, rfl, _⟩ := h
    rfl
  · obtain ⟨v, rfl, hv, k⟩ := h
    refine ⟨_, (pss_one (ps_ret (pe_df Cis_whole (hr.mono (by decide)) (by rfl) (pa_cons (pv 0) (pa_cons (pe_un un_neg (pe_glob (v := .int 1000000) (by rfl) T.CREASE.choose_spec ⟨_, rfl⟩)) (pa_cons (pe_glob (v := .int 1000000) (by rfl) T.CREASE.choose_spec ⟨_, rfl⟩) pa_nil)))))), ?_⟩
    exact ⟨_, rfl, _, rfl, v, -1000000, 1000000, rfl, hv.1, hv.2, k⟩
abbrev s_fits_folds : Stmt := top 10
abbrev n_fits_folds : List Str := ["value", "crease"]
abbrev p_fits_folds : List Str := ["value"]
theorem sc_fits_folds : FnScope n_fits_folds p_fits_folds (defScope s_fits_folds) := ⟨rfl, rfl, rfl, by decide +kernel, rfl, by decide +kernel, by decide +kernel⟩
/-- a row of folds -/
def Row (fs : List Int) : Prop := fs.length ≤ 12 ∧ ∀ v ∈ fs, Crease v
instance (fs : List Int) : Decidable (Row fs) := inferInstanceAs (Decidable (_ ∧ _))
def sp_fits_folds : Sp := fun vs H Q _ => ∃ (a : Addr) (fs : List Int), vs = [.ref a] ∧ TupAt H a fs ∧ Row fs ∧ ∀ H', Same H H' → Q (.bl true) H'
theorem ok_fits_folds {f : Addr} {fd : FuncData} (F : Fun K "fits_folds" "fits_folds" s_fits_folds f fd) (T : Bt mg) (Cis_tuple_of : Df P w K mg base "is_tuple_of" 1 p_is_tuple_of sp_is_tuple_of) (Cfits_crease : Df P w K mg base "fits_crease" 2 p_fits_crease sp_fits_crease) : FnOk P w K mg base CX0 3 f fd p_fits_folds sp_fits_folds := by
  refine F.ok sc_fits_folds (fun vs H Q E h => ?_) (fun cdv A outer s H vs Q E hr h => ?_)
  · obtain ⟨a, fs, rfl, _⟩ := h
    rfl
  · obtain ⟨a, fs, rfl, ht, hR, k⟩ := h
    refine ⟨_, (pss_one (ps_ret (pe_and (pe_df Cis_tuple_of (hr.mono (by decide)) (by rfl) (pa_cons (pv 0) (pa_cons pe_int (pa_cons (pe_glob (v := .int 12) (by rfl) T.FOLDS.choose_spec ⟨_, rfl⟩) pa_nil)))) (pe_one (pe_callB (cr_all rfl) (by rfl) T.all PyProof.Rows.boot_all (pa_cons (pe_lc (own := [("crease", 1)]) rfl sc_fits_folds.nd (pi_tup (pv 0)) (blkOk_by (own := [("crease", 1)]) (N := n_fits_folds) (sc := defScope s_fits_folds) (by decide +kernel)) (fun _ _ _ _ _ => (pg_name (i := 1) sc_fits_folds.nd rfl (by first | exact Or.inl rfl | exact Or.inr rfl))) (fun _ _ _ _ _ => pts_nil) (fun _ _ _ _ _ => (pe_df Cfits_crease (hr.mono (by decide)) (by rfl) (pa_cons (pv 1) pa_nil)))) pa_nil)))))), ?_⟩
    refine ⟨_, rfl, a, fs, 0, 12, rfl, ht, by omega, by have := hR.1; omega, true, rfl, iteT ?_⟩
    refine ⟨_, rfl, a, rfl, ⟨_, ht.sq⟩, fun D hD => lc_tup (K := K) (a := a) (xs := fs.map V.int) (fun i H' => Same H H' ∧ H' D = some (.lst ((List.replicate i true).map V.bl))) ⟨same_new (Same.refl H) hD, upd_same⟩ (fun i H' _ p => same_t p.1 ht.sq) ?_ ?_⟩
    · rintro i x H' hx ⟨sm, hd⟩
      obtain ⟨v, hv, rfl⟩ : ∃ v, fs[i]? = some v ∧ V.int v = x := by simpa using hx
      refine ⟨rfl, yes_ok ?_⟩
      refine ⟨_, rfl, v, rfl, hR.2 v (List.mem_of_getElem? hv), _, hd, ?_, same_new sm hD, ?_⟩
      · have := (List.getElem?_eq_some_iff.mp hv).1
        have h12 := hR.1
        refine szl ?_
        simp
        omega
      · rw [upd_same, List.replicate_succ', List.map_append]
        rfl
    · rintro H' ⟨sm, hd⟩
      refine ⟨D, _, rfl, SqL.of hd, ?_⟩
      have e : (List.replicate (fs.map V.int).length true).all id = true := by simp
      rw [e]
      exact k H' sm
abbrev s_need_folds : Stmt := top 11
abbrev n_need_folds : List Str := ["value"]
abbrev p_need_folds : List Str := ["value"]
theorem sc_need_folds : FnScope n_need_folds p_need_folds (defScope s_need_folds) := ⟨rfl, rfl, rfl, by decide +kernel, rfl, by decide +kernel, by decide +kernel⟩
def sp_need_folds : Sp := fun vs H Q _ => ∃ (a : Addr) (fs : List Int), vs = [.ref a] ∧ TupAt H a fs ∧ Row fs ∧ ∀ H', Same H H' → Q .non H'
theorem ok_need_folds {f : Addr} {fd : FuncData} (F : Fun K "need_folds" "need_folds" s_need_folds f fd) (T : Bt mg) (Cfits_folds : Df P w K mg base "fits_folds" 3 p_fits_folds sp_fits_folds) : FnOk P w K mg base CX0 4 f fd p_need_folds sp_need_folds := by
  refine F.ok sc_need_folds (fun vs H Q E h => ?_) (fun cdv A outer s H vs Q E hr h => ?_)
  · obtain ⟨a, fs, rfl, _⟩ := h
    rfl
  · obtain ⟨a, fs, rfl, ht, hR, k⟩ := h
    refine ⟨_, (pss_one (ps_if (pt_not (pt_val (pe_df Cfits_folds (hr.mono (by decide)) (by rfl) (pa_cons (pv 0) pa_nil)))) (pss_one ps_never) pss_nil)), ?_⟩
    refine ⟨_, rfl, a, fs, rfl, ht, hR, fun H' sm => ⟨true, rfl, iteF ?_⟩⟩
    exact k H' sm
abbrev s_need_size : Stmt := top 15
abbrev n_need_size : List Str := ["value", "most"]
abbrev p_need_size : List Str := ["value", "most"]
theorem sc_need_size : FnScope n_need_size p_need_size (defScope s_need_size) := ⟨rfl, rfl, rfl, by decide +kernel, rfl, by decide +kernel, by decide +kernel⟩
def sp_need_size : Sp := fun vs H Q _ => ∃ (n m : Int), vs = [.int n, .int m] ∧ 1 ≤ n ∧ n ≤ m ∧ Q .non H
theorem ok_need_size {f : Addr} {fd : FuncData} (F : Fun K "need_size" "need_size" s_need_size f fd) (T : Bt mg) (Cis_whole : Df P w K mg base "is_whole" 1 p_is_whole sp_is_whole) : FnOk P w K mg base CX0 2 f fd p_need_size sp_need_size := by
  refine F.ok sc_need_size (fun vs H Q E h => ?_) (fun cdv A outer s H vs Q E hr h => ?_)
  · obtain ⟨n, m, rfl, _⟩ := h
    rfl
  · obtain ⟨n, m, rfl, h1, h2, k⟩ := h
    refine ⟨_, (pss_one (ps_if (pt_not (pt_val (pe_df Cis_whole (hr.mono (by decide)) (by rfl) (pa_cons (pv 0) (pa_cons pe_int (pa_cons (pv 1) pa_nil)))))) (pss_one ps_never) pss_nil)), ?_⟩
    exact ⟨_, rfl, _, rfl, n, 1, m, rfl, h1, h2, true, rfl, iteF k⟩
/-! ## prints -/
abbrev s_steps_in : Stmt := top 13
abbrev n_steps_in : List Str := ["folds", "one", "other"]
abbrev p_steps_in : List Str := ["folds"]
theorem sc_steps_in : FnScope n_steps_in p_steps_in (defScope s_steps_in) := ⟨rfl, rfl, rfl, by decide +kernel, rfl, by decide +kernel, by decide +kernel⟩
def sp_steps_in : Sp := fun vs H Q _ => ∃ (a : Addr) (fs : List Int), vs = [.ref a] ∧ TupAt H a fs ∧ fs.length ≤ 12 ∧ ∀ p H', H p = none → Same H H' → TupAt H' p (steps fs) → Q (.ref p) H'
theorem zip_at {fs : List Int} {i : Nat} {x y : V} (hx : (fs.map V.int)[i]? = some x) (hy : ((fs.drop 1).map V.int)[i]? = some y) :
    ∃ u v, x = .int u ∧ y = .int v ∧ (diffs fs).take (i + 1) = (diffs fs).take i ++ [dif u v] := by
  obtain ⟨u, hu, rfl⟩ : ∃ v, fs[i]? = some v ∧ V.int v = x := by simpa using hx
  obtain ⟨v, hv, rfl⟩ : ∃ v, (fs.drop 1)[i]? = some v ∧ V.int v = y := by
    rw [List.getElem?_map, Option.map_eq_some_iff] at hy
    exact hy
  refine ⟨u, v, rfl, rfl, ?_⟩
  have e : (diffs fs)[i]? = some (dif u v) := by
    unfold diffs
    rw [List.getElem?_map, List.zip, List.getElem?_zipWith, hu, hv]
    rfl
  rw [List.take_add_one, e]
  rfl
theorem sl_drop1 {a : Addr} {fs : List Int} {H : Hp} {Q : VK} (ht : TupAt H a fs) (k : ∀ b H1, Same H H1 → SqT K H1 b ((fs.drop 1).map V.int) → Q (.ref b) H1) : rSlA K (.ref a) (some 1) none H Q := by
  refine ⟨a, _, rfl, ht.sq, fun hw => ?_, fun hw p hp => ?_⟩
  · refine k a H (Same.refl H) ?_
    have h0 : fs = [] := by
      cases fs with
      | nil => rfl
      | cons x r =>
        exfalso
        have := hw.1
        simp [HT.sIx] at this
    subst h0
    exact ht.sq
  · refine k p _ (same_new (Same.refl H) hp) (SqT.of ?_)
    rw [upd_same]
    congr 2
    unfold cutV
    cases fs with
    | nil => rfl
    | cons x r =>
      have e : min 1 (r.length + 1) = 1 := by omega
      simp [HT.sIx, e]
      exact List.take_of_length_le (by simp)
theorem ok_steps_in {f : Addr} {fd : FuncData} (F : Fun K "steps_in" "steps_in" s_steps_in f fd) (T : Bt mg) : FnOk P w K mg base CX0 1 f fd p_steps_in sp_steps_in := by
  refine F.ok sc_steps_in (fun vs H Q E h => ?_) (fun cdv A outer s H vs Q E hr h => ?_)
  · obtain ⟨a, fs, rfl, _⟩ := h
    rfl
  · obtain ⟨a, fs, rfl, ht, h12, k⟩ := h
    refine ⟨_, (pss_one (ps_ret (pe_callTy call_tuple_of (by rfl) T.tuple PyProof.Rows.boot_tuple (pa_cons (pe_callB cr_sortedI (by rfl) T.sorted PyProof.Rows.boot_sorted (pa_cons (pe_lc (own := [("one", 1), ("other", 2)]) (g := (gTup K 2 (gCons (gName 1) (gCons (gName 2) gNil)))) (tt := tYes) (te := (tCB rAbs (tCons (tOp (rI0 fun i j => .int (i - j)) (tVar 1) (tVar 2)) tNil))) rfl sc_steps_in.nd (RZ.pi_zipA (by rfl) T.zip (pa_cons (pv 0) (pa_cons (pe_slice sl_tupA (pv 0) (po_some pe_int) po_none) pa_nil))) (blkOk_by (own := [("one", 1), ("other", 2)]) (N := n_steps_in) (sc := defScope s_steps_in) (by decide +kernel)) (fun _ _ _ _ _ => (pg_tup (n := 2) rfl (pgs_cons (pg_name (i := 1) sc_steps_in.nd rfl (by first | exact Or.inl rfl | exact Or.inr rfl)) (pgs_cons (pg_name (i := 2) sc_steps_in.nd rfl (by first | exact Or.inl rfl | exact Or.inr rfl)) pgs_nil)))) (fun _ _ _ _ _ => pts_nil) (fun _ _ _ _ _ => (pe_callB call_abs1 (by rfl) T.abs PyProof.Rows.boot_abs (pa_cons (pe_op op_sub (pv 1) (pv 2)) pa_nil)))) pa_nil)) pa_nil)))), ?_⟩
    refine ⟨_, rfl, _, rfl, 1, rfl, ?_⟩
    dsimp only [tNoPart]
    refine sl_drop1 ht fun b H1 sm hb => ?_
    refine ⟨a, b, _, _, rfl, .inr ⟨same_t sm ht.sq, hb, fun D hD => lc_it (walk_zipT rfl) (fun i H' => Same H1 H' ∧ H' D = some (.lst (((diffs fs).take i).map V.int))) ⟨same_new (Same.refl H1) hD, upd_same⟩ (fun i H' _ p => ⟨same_t (sm.trans p.1) ht.sq, same_t p.1 hb⟩) ?_ ?_⟩⟩
    · rintro i x H2 H3 hi ⟨s2, hd⟩ ⟨U, y, z, rfl, hU, rfl, hy, hz⟩
      obtain ⟨u, v, rfl, rfl, e⟩ := zip_at hy hz
      refine ⟨U, _, rfl, SqT.of upd_same, rfl, _, _, rfl, _, _, rfl, rfl, rfl, yes_ok ?_⟩
      have nDU : D ≠ U := ne_of_none hd hU
      refine ⟨_, rfl, _, rfl, u, v, rfl, rfl, u - v, rfl, _, by rw [upd_ne nDU]; exact hd, ?_, ?_, ?_⟩
      · refine szl ?_
        have := diffs_length fs
        simp
        omega
      · exact same_new (same_new' s2 hU) hD
      · rw [upd_same, e, List.map_append]
        rfl
    · rintro H2 ⟨s2, hd⟩
      have e : (diffs fs).take (min (fs.map V.int).length ((fs.drop 1).map V.int).length) = diffs fs := by
        refine List.take_of_length_le ?_
        rw [diffs_length]
        simp
      rw [e] at hd
      refine ⟨D, diffs fs, rfl, SqL.of hd, fun ns p hp hs hn => ?_⟩
      have en := isort_unique hp hs
      subst en
      refine ⟨p, _, rfl, .inl ⟨SqL.of upd_same, fun l hl => ?_⟩⟩
      have s3 : Same H (upd (upd H2 p (.lst ((steps fs).map V.int))) l (.tup ((steps fs).map V.int))) := same_new' (same_new' (sm.trans s2) hn) hl
      exact k l _ ((same_new' (sm.trans s2) hn).free hl) s3 upd_same
end
end Wet
end
section
set_option maxRecDepth 100000
namespace Wet
open PySem L2
theorem iteD {p A B : Prop} [Decidable p] (h1 : p → A) (h2 : ¬ p → B) : if decide p = true then A else B := by
  by_cases h : p
  · rw [if_pos (decide_eq_true h)]; exact h1 h
  · rw [if_neg (by simpa using h)]; exact h2 h
theorem iteN {p A B : Prop} [Decidable p] (h1 : ¬ p → A) (h2 : p → B) : if (!decide p) = true then A else B := by
  by_cases h : p
  · rw [if_neg (by simpa using h)]; exact h2 h
  · rw [if_pos (by simpa using h)]; exact h1 h
theorem dp_ints {K : PySem.W.Frag} {H : Hp} : ∀ ns : List Int, DpAll K H (ns.map V.int) (ns.map PyData.int)
  | [] => .nil
  | n :: r => .cons (.int n) (dp_ints r)
theorem eqv_ints : ∀ xs ys : List Int, PyData.eqvAll (xs.map PyData.int) (ys.map PyData.int) = decide (xs = ys)
  | [], [] => by simp [PyData.eqvAll]
  | [], y :: ys => by simp [PyData.eqvAll]
  | x :: xs, [] => by simp [PyData.eqvAll]
  | x :: xs, y :: ys => by
    have ih := eqv_ints xs ys
    simp only [List.map_cons, PyData.eqvAll, PyData.eqv, ih]
    by_cases h : x = y
    · subst h; simp
    · simp [h]
theorem shaped_tup (ns : List Int) : SeqAt.shaped (.tuple (ns.map PyData.int)) = true := by
  have h := PySem.W.ke_shaped_ints ns
  unfold SeqAt.shaped at h ⊢
  simpa [PyData.canLay0, PyData.depth] using h
section
variable {K : PySem.W.Frag} {H : Hp} {a b : Addr} {fs gs : List Int} {Q : VK}
theorem eqT_ok (ha : SqT K H a (fs.map V.int)) (hb : SqT K H b (gs.map V.int)) (k : Q (.bl (decide (fs = gs))) H) : rEqD K (.ref a) (.ref b) H Q := by
  refine ⟨_, _, .tup ha (dp_ints fs), .tup hb (dp_ints gs), shaped_tup _, shaped_tup _, ?_⟩
  rw [PyData.eqv, eqv_ints]
  exact k
theorem neT_ok (ha : SqT K H a (fs.map V.int)) (hb : SqT K H b (gs.map V.int)) (k : Q (.bl (!decide (fs = gs))) H) : rNeD K (.ref a) (.ref b) H Q := by
  refine ⟨_, _, .tup ha (dp_ints fs), .tup hb (dp_ints gs), shaped_tup _, shaped_tup _, ?_⟩
  rw [PyData.eqv, eqv_ints]
  exact k
theorem eqL_ok (ha : SqL K H a (fs.map V.int)) (hb : SqL K H b (gs.map V.int)) (k : Q (.bl (decide (fs = gs))) H) : rEqD K (.ref a) (.ref b) H Q := by
  refine ⟨_, _, .lst ha (dp_ints fs), .lst hb (dp_ints gs), PySem.W.ke_shaped_ints _, PySem.W.ke_shaped_ints _, ?_⟩
  rw [PyData.eqv, eqv_ints]
  exact k
theorem neL_ok (ha : SqL K H a (fs.map V.int)) (hb : SqL K H b (gs.map V.int)) (k : Q (.bl (!decide (fs = gs))) H) : rNeD K (.ref a) (.ref b) H Q := by
  refine ⟨_, _, .lst ha (dp_ints fs), .lst hb (dp_ints gs), PySem.W.ke_shaped_ints _, PySem.W.ke_shaped_ints _, ?_⟩
  rw [PyData.eqv, eqv_ints]
  exact k
theorem inV_ints (x : Int) (ns : List Int) : inV (.int x) (ns.map V.int) = decide (x ∈ ns) := by
  unfold inV
  rw [List.any_map, ← List.elem_eq_mem, List.elem_eq_contains, List.contains_eq_any_beq]
  congr 1
  funext y
  show (y == x) = (x == y)
  rw [Bool.eq_iff_iff, beq_iff_eq, beq_iff_eq]
  exact eq_comm
theorem flat_ints (ns : List Int) : (ns.map V.int).all flatV = true := by simp [flatV]
theorem inT_ok {x : Int} (ha : SqT K H a (fs.map V.int)) (k : Q (.bl (decide (x ∈ fs))) H) : rIn K false (.int x) (.ref a) H Q := by
  refine ⟨a, _, rfl, .inr ha, rfl, flat_ints _, ?_⟩
  rw [inV_ints, if_neg Bool.false_ne_true]
  exact k
theorem inL_ok {x : Int} (ha : SqL K H a (fs.map V.int)) (k : Q (.bl (decide (x ∈ fs))) H) : rIn K false (.int x) (.ref a) H Q := by
  refine ⟨a, _, rfl, .inl ha, rfl, flat_ints _, ?_⟩
  rw [inV_ints, if_neg Bool.false_ne_true]
  exact k
theorem notInL_ok {x : Int} (ha : SqL K H a (fs.map V.int)) (k : Q (.bl (!decide (x ∈ fs))) H) : rIn K true (.int x) (.ref a) H Q := by
  refine ⟨a, _, rfl, .inl ha, rfl, flat_ints _, ?_⟩
  rw [inV_ints, if_pos rfl]
  exact k
theorem cat_ok (ha : LstAt H a fs) (hb : LstAt H b gs) (hl : fs.length + gs.length ≤ 1000000) (k : ∀ p H', H p = none → H' = upd H p (.lst ((fs ++ gs).map V.int)) → Same H H' → LstAt H' p (fs ++ gs) → Q (.ref p) H') : rCat (.ref a) (.ref b) H Q := by
  refine ⟨a, b, _, _, rfl, rfl, ha, hb, by rw [List.length_map, List.length_map]; exact Nat.le_trans hl (by decide), fun p hp => ?_⟩
  rw [← List.map_append]
  exact k p _ hp rfl (same_new (Same.refl H) hp) upd_same
end
section
variable {P : Program} {w : World} {K : PySem.W.Frag} {mg : Str → Option Value} {base : Heap}
/-! ## ringwashes -/
abbrev s_twos_of : Stmt := top 18
abbrev n_twos_of : List Str := ["number", "found"]
abbrev p_twos_of : List Str := ["number"]
theorem sc_twos_of : FnScope n_twos_of p_twos_of (defScope s_twos_of) := ⟨rfl, rfl, rfl, by decide +kernel, rfl, by decide +kernel, by decide +kernel⟩
def sp_twos_of : Sp := fun vs H Q _ => ∃ n : Int, vs = [.int n] ∧ 0 < n ∧ Q (.int (twos n)) H
theorem ok_twos_of {f : Addr} {fd : FuncData} (F : Fun K "twos_of" "twos_of" s_twos_of f fd) (T : Bt mg) : FnOk P w K mg base CX0 1 f fd p_twos_of sp_twos_of := by
  refine F.ok sc_twos_of (fun vs H Q E h => ?_) (fun cdv A outer s H vs Q E hr h => ?_)
  · obtain ⟨n, rfl, _⟩ := h
    rfl
  · obtain ⟨n, rfl, hn, k⟩ := h
    refine ⟨_, (pss_cons (ps_set (i := 1) sc_twos_of.nd rfl (Or.inl rfl) pe_int)
    (pss_cons (ps_while PassesOwn.never (pt_cmpR op_eq (pe_op op_mod (pv 0) (pe_op op_mul pe_int (pv 1))) pe_int (nomark _)) (pss_one (ps_set (i := 1) sc_twos_of.nd rfl (Or.inl rfl) (pe_op op_mul pe_int (pv 1)))))
    (pss_one (ps_ret (pv 1))))), ?_⟩
    refine ⟨fun m σ H' => ∃ (a : Nat) (f : Int), σ = [some (.int n), some (.int f)] ∧ H' = H ∧ f = 2 ^ a ∧ f ∣ n ∧ (m : Int) = n - f, ⟨(n - 1).toNat, 0, 1, rfl, rfl, rfl, ⟨n, by simp⟩, by omega⟩, ?_⟩
    rintro m σ H' ⟨a, f, rfl, rfl, hf, hd, hm⟩
    have fp : 0 < f := by rw [hf]; exact two_pow_pos a
    refine ⟨_, rfl, _, rfl, 2, f, rfl, rfl, .inl ⟨by decide, by decide⟩, n, 2 * f, rfl, rfl, (by show (0 : Int) < 2 * f; omega), rfl, _, rfl, iteD (fun h => ?_) (fun h => ?_)⟩
    · have h0 : n % (2 * f) = 0 := V.int.inj h
      have hd2 : 2 * f ∣ n := Int.dvd_of_emod_eq_zero h0
      have hle := Int.le_of_dvd hn hd2
      refine ⟨fun σ' H' => ∃ m', m' < m ∧ _, fun _ _ z => z, ?_⟩
      exact ⟨_, rfl, 2, f, rfl, rfl, .inl ⟨by decide, by decide⟩, (n - 2 * f).toNat, by omega, a + 1, 2 * f, rfl, rfl, by rw [hf, Int.pow_succ, Int.mul_comm], hd2, by omega⟩
    · have h0 : ¬ n % (2 * f) = 0 := fun e => h (congrArg V.int e)
      have e : twos n = f := twos_eq hn ⟨a, hf, hd, fun q => h0 (Int.emod_eq_zero_of_dvd q)⟩
      refine ⟨_, rfl, ?_⟩
      rw [e] at k
      exact k
abbrev s_power_within : Stmt := top 21
abbrev n_power_within : List Str := ["number", "found"]
abbrev p_power_within : List Str := ["number"]
theorem sc_power_within : FnScope n_power_within p_power_within (defScope s_power_within) := ⟨rfl, rfl, rfl, by decide +kernel, rfl, by decide +kernel, by decide +kernel⟩
def sp_power_within : Sp := fun vs H Q _ => ∃ n : Int, vs = [.int n] ∧ 0 ≤ n ∧ Q (.int (powW n)) H
theorem powW_half {n : Int} (h : 0 < n) : powW n = powW (n / 2) + 1 := by
  obtain ⟨m, rfl⟩ := Int.eq_ofNat_of_zero_le (Int.le_of_lt h)
  unfold powW
  rw [if_neg (by omega)]
  by_cases c : (m : Int) / 2 ≤ 0
  · have : m = 1 := by omega
    subst this
    decide
  · rw [if_neg c]
    have e : ((m : Int) / 2).toNat = m / 2 := by omega
    have e2 : ((m : Int)).toNat = m := by omega
    rw [e, e2, Nat.log2_def m, if_pos (by omega)]
    rfl
theorem ok_power_within {f : Addr} {fd : FuncData} (F : Fun K "power_within" "power_within" s_power_within f fd) (T : Bt mg) : FnOk P w K mg base CX0 1 f fd p_power_within sp_power_within := by
  refine F.ok sc_power_within (fun vs H Q E h => ?_) (fun cdv A outer s H vs Q E hr h => ?_)
  · obtain ⟨n, rfl, _⟩ := h
    rfl
  · obtain ⟨n, rfl, hn, k⟩ := h
    refine ⟨_, (pss_cons (ps_set (i := 1) sc_power_within.nd rfl (Or.inl rfl) (pe_un un_neg pe_int))
    (pss_cons (ps_while PassesOwn.never (pt_cmpR op_gt (pv 0) pe_int (nomark _)) (pss_one (ps_par (i := 1) (j := 0) rfl sc_power_within.nd rfl rfl (by decide) rfl rfl (pa_cons (pe_op op_add (pv 1) pe_int) (pa_cons (pe_op op_fdiv (pv 0) pe_int) pa_nil)) (by rfl))))
    (pss_one (ps_ret (pv 1))))), ?_⟩
    refine ⟨1, rfl, fun m σ H' => ∃ (x f : Int), σ = [some (.int x), some (.int f)] ∧ H' = H ∧ 0 ≤ x ∧ f + 1 + powW x = powW n ∧ (m : Int) = x, ⟨n.toNat, n, -1, rfl, rfl, hn, by omega, by omega⟩, ?_⟩
    rintro m σ H' ⟨x, f, rfl, rfl, hx, he, hm⟩
    refine ⟨_, rfl, _, _, rfl, rfl, _, rfl, iteD (fun h => ?_) (fun h => ?_)⟩
    · refine ⟨fun σ' H' => ∃ m', m' < m ∧ _, fun _ _ z => z, ?_⟩
      refine ⟨_, rfl, _, _, rfl, rfl, _, rfl, _, _, rfl, rfl, ⟨by decide, by decide⟩, _, _, rfl, ?_⟩
      have := powW_half h
      exact ⟨(x / 2).toNat, by omega, x / 2, f + 1, rfl, rfl, by omega, by omega, by omega⟩
    · refine ⟨_, rfl, ?_⟩
      have x0 : x = 0 := by omega
      subst x0
      have e0 : powW 0 = -1 := by decide
      have e : f = powW n := by omega
      rw [← e] at k
      exact k
abbrev s_doubled_up : Stmt := top 22
abbrev n_doubled_up : List Str := ["odd", "weight", "found", "twos"]
abbrev p_doubled_up : List Str := ["odd", "weight"]
theorem sc_doubled_up : FnScope n_doubled_up p_doubled_up (defScope s_doubled_up) := ⟨rfl, rfl, rfl, by decide +kernel, rfl, by decide +kernel, by decide +kernel⟩
def sp_doubled_up : Sp := fun vs H Q _ => ∃ o n : Int, vs = [.int o, .int n] ∧ 0 < o ∧ o ≤ 2000000 ∧ n ≤ 100000000 ∧ ∀ p H', H p = none → Same H H' → LstAt H' p (dbl o n) → Q (.ref p) H'
theorem dbl_take {o n : Int} {i : Nat} (h : (2 : Int) ^ i ≤ n) : ((List.range (i + 1)).map fun j => o * 2 ^ j) = ((List.range i).map fun j => o * 2 ^ j) ++ [o * (2 : Int) ^ i] := by
  rw [List.range_succ, List.map_append]
  rfl
theorem pow_big {i : Nat} (h : (2 : Int) ^ i ≤ 100000000) : i ≤ 26 := by
  refine Nat.le_of_not_lt fun c => ?_
  obtain ⟨z, hz⟩ := two_pow_dvd (show 27 ≤ i from c)
  have p := two_pow_pos i
  have := Int.le_of_dvd p (two_pow_dvd (show 27 ≤ i from c))
  have e : (2 : Int) ^ 27 = 134217728 := by decide
  omega
theorem ok_doubled_up {f : Addr} {fd : FuncData} (F : Fun K "doubled_up" "doubled_up" s_doubled_up f fd) (T : Bt mg) : FnOk P w K mg base CX0 1 f fd p_doubled_up sp_doubled_up := by
  refine F.ok sc_doubled_up (fun vs H Q E h => ?_) (fun cdv A outer s H vs Q E hr h => ?_)
  · obtain ⟨o, n, rfl, _⟩ := h
    rfl
  · obtain ⟨o, n, rfl, ho, ho2, hn, k⟩ := h
    refine ⟨_, (pss_cons (ps_par (i := 2) (j := 3) rfl sc_doubled_up.nd rfl rfl (by decide) rfl rfl (pa_cons (pe_lst pa_nil) (pa_cons pe_int pa_nil)) (by rfl))
    (pss_cons (ps_while PassesOwn.never (pt_cmpR op_le (pv 3) (pv 1) (nomark _)) (pss_one (ps_par (i := 2) (j := 3) rfl sc_doubled_up.nd rfl rfl (by decide) rfl rfl (pa_cons (pe_op op_cat (pv 2) (pe_lst (pa_cons (pe_op op_mul (pv 0) (pv 3)) pa_nil))) (pa_cons (pe_op op_mul pe_int (pv 3)) pa_nil)) (by rfl))))
    (pss_one (ps_ret (pv 2))))), ?_⟩
    refine ⟨sz 0, fun p0 hp0 => ⟨_, _, rfl, ?_⟩⟩
    refine ⟨fun m σ H' => ∃ (i : Nat) (l : Addr), σ = [some (.int o), some (.int n), some (.ref l), some (.int (2 ^ i))] ∧ Same H H' ∧ H l = none ∧ LstAt H' l ((List.range i).map fun j => o * 2 ^ j) ∧ (i = 0 ∨ (2 : Int) ^ (i - 1) ≤ n) ∧ m = 28 - i,
      ⟨28, 0, p0, rfl, same_new (Same.refl H) hp0, hp0, upd_same, Or.inl rfl, rfl⟩, ?_⟩
    rintro m σ H' ⟨i, l, rfl, sm, hl, hL, hi, hm⟩
    refine ⟨_, rfl, _, rfl, _, _, rfl, rfl, _, rfl, iteD (fun h => ?_) (fun h => ?_)⟩
    · have i26 := pow_big (Int.le_trans h hn)
      refine ⟨fun σ' H' => ∃ m', m' < m ∧ _, fun _ _ z => z, ?_⟩
      refine ⟨_, rfl, _, rfl, _, rfl, _, _, rfl, rfl, .inl ⟨by omega, by omega⟩, sz 1, fun q hq => ?_⟩
      refine cat_ok (gs := [o * 2 ^ i]) (hL.same (same_new (Same.refl H') hq)) upd_same (by simp; omega) fun p H2 hp _ s2 hL2 => ?_
      refine ⟨_, rfl, _, _, rfl, rfl, .inl ⟨by decide, by decide⟩, _, _, rfl, ?_⟩
      have sm2 : Same H H2 := (same_new' sm hq).trans s2
      refine ⟨28 - (i + 1), by omega, i + 1, p, ?_, sm2, ?_, ?_, Or.inr h, rfl⟩
      · have e : (2 : Int) * 2 ^ i = 2 ^ (i + 1) := by rw [Int.pow_succ, Int.mul_comm]
        show [some (V.int o), some (V.int n), some (V.ref p), some (V.int (2 * 2 ^ i))] = _
        rw [e]
      · exact (same_new' sm hq).free hp
      · rw [dbl_take h]
        exact hL2
    · refine ⟨_, rfl, k l H' hl sm ?_⟩
      have e : dbl o n = (List.range i).map fun j => o * 2 ^ j := by
        unfold dbl
        congr 2
        have h1 : ¬ (i : Int) < powW n + 1 := fun q => h ((powW_iff i).mp q)
        rcases hi with rfl | hi
        · omega
        · have h2 := (powW_iff (i - 1)).mpr hi
          have h3 : i ≠ 0 := by
            rintro rfl
            exact h hi
          omega
      rw [e]
      exact hL
end
end Wet

end
section
set_option maxRecDepth 100000
namespace Wet
open PySem L2
section
variable {P : Program} {w : World} {K : PySem.W.Frag} {mg : Str → Option Value} {base : Heap}
abbrev s_odd_parts : Stmt := top 19
abbrev n_odd_parts : List Str := ["number", "odd", "low", "part"]
abbrev p_odd_parts : List Str := ["number"]
theorem sc_odd_parts : FnScope n_odd_parts p_odd_parts (defScope s_odd_parts) := ⟨rfl, rfl, rfl, by decide +kernel, rfl, by decide +kernel, by decide +kernel⟩
/-- a step whose odd divisors are few -/
def Few (n : Int) : Prop := 0 < n ∧ n ≤ 2000000 ∧ (lowOf (oddOf n)).length < 32
instance (n : Int) : Decidable (Few n) := inferInstanceAs (Decidable (_ ∧ _ ∧ _))
def sp_odd_parts : Sp := fun vs H Q _ => ∃ n : Int, vs = [.int n] ∧ Few n ∧ ∀ p H', H p = none → Same H H' → LstAt H' p (oddParts n) → Q (.ref p) H'
theorem ok_odd_parts {f : Addr} {fd : FuncData} (F : Fun K "odd_parts" "odd_parts" s_odd_parts f fd) (T : Bt mg) (Ctwos_of : Df P w K mg base "twos_of" 1 p_twos_of sp_twos_of) : FnOk P w K mg base CX0 2 f fd p_odd_parts sp_odd_parts := by
  refine F.ok sc_odd_parts (fun vs H Q E h => ?_) (fun cdv A outer s H vs Q E hr h => ?_)
  · obtain ⟨n, rfl, _⟩ := h
    rfl
  · obtain ⟨n, rfl, ⟨hn, hn2, hfew⟩, k⟩ := h
    refine ⟨_, (pss_cons (ps_set (i := 1) sc_odd_parts.nd rfl (Or.inr rfl) (pe_op op_fdiv (pe_callB call_abs1 (by rfl) T.abs PyProof.Rows.boot_abs (pa_cons (pv 0) pa_nil)) (pe_df Ctwos_of (hr.mono (by decide)) (by rfl) (pa_cons (pv 0) pa_nil))))
    (pss_cons (ps_par (i := 2) (j := 3) rfl sc_odd_parts.nd rfl rfl (by decide) rfl rfl (pa_cons (pe_lst pa_nil) (pa_cons pe_int pa_nil)) (by rfl))
    (pss_cons (ps_while PassesOwn.never (pt_cmpR op_le (pe_op op_mul (pv 3) (pv 3)) (pv 1) (nomark _)) (pss_cons (ps_set (i := 2) sc_odd_parts.nd rfl (Or.inl rfl) (pe_op op_cat (pv 2) (pe_ifExp (pt_cmpR op_eq (pe_op op_mod (pv 1) (pv 3)) pe_int (nomark _)) (pe_lst (pa_cons (pv 3) pa_nil)) (pe_lst pa_nil))))
        (pss_one (ps_set (i := 3) sc_odd_parts.nd rfl (Or.inl rfl) (pe_op op_add (pv 3) pe_int)))))
    (pss_one (ps_ret (pe_sortedSet (by rfl) T.sorted (by rfl) T.set (pe_op op_cat (pv 2) (pe_lc (own := [("part", 3)]) (g := (gName 3)) (tt := tYes) (te := (tOp (rI CDiv fun i j => .int (i / j)) (tVar 1) (tVar 3))) rfl sc_odd_parts.nd (pi_list (pv 2)) (blkOk_by (own := [("part", 3)]) (N := n_odd_parts) (sc := defScope s_odd_parts) (by decide +kernel)) (fun _ _ _ _ _ => (pg_name (i := 3) sc_odd_parts.nd rfl (by first | exact Or.inl rfl | exact Or.inr rfl))) (fun _ _ _ _ _ => pts_nil) (fun _ _ _ _ _ => (pe_op op_fdiv (pv 1) (pv 3))))))))))), ?_⟩
    have ab : (if n < 0 then -n else n) = n := if_neg (by omega)
    have tp := twos_pos hn
    have tl := twos_le hn
    have op := oddOf_pos hn
    have ol : oddOf n ≤ n := by
      have := twos_mul_div hn
      have h2 := Int.mul_le_mul_of_nonneg_right (show 1 ≤ twos n by omega) (Int.le_of_lt op)
      unfold oddOf at h2 ⊢
      omega
    refine ⟨_, rfl, n, rfl, _, rfl, n, rfl, hn, _, _, rfl, rfl, ⟨tp, by omega⟩, ?_⟩
    rw [ab]
    refine ⟨sz 0, fun p0 hp0 => ⟨_, _, rfl, ?_⟩⟩
    refine ⟨fun m σ H' => ∃ (j : Nat) (p : Int) (low : List Int) (l : Addr), σ = [some (.int n), some (.int (oddOf n)), some (.ref l), some (.int p)] ∧ Same H H' ∧ LstAt H' l low ∧ 1 ≤ p ∧ p ≤ 1420 ∧ oddOf n < p + j ∧ lowGo (oddOf n) j p low = lowOf (oddOf n) ∧ low.length ≤ p ∧ m = j,
      ⟨(oddOf n).toNat, (oddOf n).toNat, 1, [], p0, rfl, same_new (Same.refl H) hp0, upd_same, by decide, by decide, by omega, rfl, by decide, rfl⟩, ?_⟩
    rintro m σ H' ⟨j, p, low, l, rfl, sm, hL, hp, hp2, hj, hgo, hlen, hm⟩
    refine ⟨_, rfl, _, rfl, _, _, rfl, rfl, .inl ⟨by omega, by omega⟩, _, rfl, _, _, rfl, rfl, _, rfl, iteD (fun h => ?_) (fun h => ?_)⟩
    · have hpp := sq_ge hp
      have p15 : p < 1415 := by
        refine Int.lt_of_not_ge fun c => ?_
        have := sq_mono (show (0 : Int) ≤ 1415 by decide) c
        omega
      cases j with
      | zero => omega
      | succ j =>
        have hgo2 : lowGo (oddOf n) j (p + 2) (low ++ if oddOf n % p = 0 then [p] else []) = lowOf (oddOf n) := by
          rw [← hgo]
          show _ = (if p * p ≤ oddOf n then _ else _)
          rw [if_pos h]
        refine ⟨fun σ' H' => ∃ m', m' < m ∧ _, fun _ _ z => z, ?_⟩
        refine ⟨_, rfl, _, rfl, _, rfl, _, _, rfl, rfl, (by show (0 : Int) < p; omega), rfl, _, rfl, iteD (fun c => ?_) (fun c => ?_)⟩
        · have c0 : oddOf n % p = 0 := V.int.inj c
          rw [if_pos c0] at hgo2
          refine ⟨_, rfl, sz 1, fun q hq => ?_⟩
          refine cat_ok (gs := [p]) (hL.same (same_new (Same.refl H') hq)) upd_same (by simp; omega) fun p2 H2 hp3 _ s2 hL2 => ?_
          exact ⟨_, rfl, _, _, rfl, rfl, j, by omega, j, p + 2, low ++ [p], p2, rfl, (same_new' sm hq).trans s2, hL2, by omega, by omega, by omega, hgo2, by simp; omega, rfl⟩
        · have c0 : ¬ oddOf n % p = 0 := fun e => c (congrArg V.int e)
          rw [if_neg c0] at hgo2
          refine ⟨sz 0, fun q hq => ?_⟩
          refine cat_ok (gs := []) (hL.same (same_new (Same.refl H') hq)) upd_same (by simp; omega) fun p2 H2 hp3 _ s2 hL2 => ?_
          exact ⟨_, rfl, _, _, rfl, rfl, j, by omega, j, p + 2, low ++ [], p2, rfl, (same_new' sm hq).trans s2, hL2, by omega, by omega, by omega, hgo2, by simp; omega, rfl⟩
    · have e : low = lowOf (oddOf n) := by
        rw [← hgo]
        cases j with
        | zero => rfl
        | succ j =>
          show _ = (if p * p ≤ oddOf n then _ else _)
          rw [if_neg h]
      refine ⟨_, rfl, ⟨_, rfl, l, rfl, ⟨_, hL.sq⟩, fun D hD => lc_list (K := K) (a := l) (xs := low.map V.int) (fun i H2 => Same H' H2 ∧ LstAt H2 D ((low.take i).map fun p => oddOf n / p)) ⟨same_new (Same.refl H') hD, upd_same⟩ (fun i H2 _ q => q.1.seq hL.sq) ?_ ?_⟩⟩
      · rintro i x H2 hx ⟨s2, hd⟩
        obtain ⟨v, hv, rfl⟩ : ∃ v, low[i]? = some v ∧ V.int v = x := by simpa using hx
        have vm : v ∈ lowOf (oddOf n) := e ▸ List.mem_of_getElem? hv
        obtain ⟨v1, _, v2, _⟩ := low_mem.mp vm
        have v3 := sq_ge v1
        refine ⟨rfl, yes_ok ?_⟩
        refine ⟨_, rfl, _, rfl, oddOf n, v, rfl, rfl, ⟨by omega, by omega⟩, _, hd, ?_, same_new s2 hD, ?_⟩
        · have := (List.getElem?_eq_some_iff.mp hv).1
          refine szl ?_
          simp
          omega
        · show upd _ _ _ _ = _
          rw [upd_same, List.take_add_one, hv, List.map_append, List.map_append]
          rfl
      · rintro H2 ⟨s2, hd⟩
        rw [List.length_map, List.take_length] at hd
        refine cat_ok (hL.same s2) hd (by simp; omega) fun p2 H3 hp3 _ s3 hL3 => ?_
        refine sortSet_ok hL3.sq (by rw [List.length_append, List.length_map, e]; omega) fun p4 H4 hp4 s4 hL4 => ?_
        have sA : Same H H3 := (sm.trans s2).trans s3
        refine k p4 H4 (sA.free hp4) (sA.trans s4) ?_
        rw [e] at hL4
        exact hL4
abbrev s_weight_of : Stmt := top 20
abbrev n_weight_of : List Str := ["folds", "odd", "steps", "step"]
abbrev p_weight_of : List Str := ["folds", "odd"]
theorem sc_weight_of : FnScope n_weight_of p_weight_of (defScope s_weight_of) := ⟨rfl, rfl, rfl, by decide +kernel, rfl, by decide +kernel, by decide +kernel⟩
/-- a row with folds, without a step of 0 -/
structure Some0 (fs : List Int) : Prop where
  len : fs.length ≤ 12
  ne : fs ≠ []
  pos : ∀ s ∈ steps fs, 0 < s
def sp_weight_of : Sp := fun vs H Q _ => ∃ (a : Addr) (fs : List Int) (o : Int), vs = [.ref a, .int o] ∧ TupAt H a fs ∧ Some0 fs ∧ 0 < o ∧ ∀ H', Same H H' → Q (.int (weight fs o)) H'
theorem filter_take {p : Int → Bool} {l : List Int} {i : Nat} {v : Int} (h : l[i]? = some v) : (l.take (i + 1)).filter p = (l.take i).filter p ++ if p v = true then [v] else [] := by
  rw [List.take_add_one, h, List.filter_append]
  congr 1
  show [v].filter p = _
  cases e : p v <;> simp [e]
theorem ok_weight_of {f : Addr} {fd : FuncData} (F : Fun K "weight_of" "weight_of" s_weight_of f fd) (T : Bt mg) (Ctwos_of : Df P w K mg base "twos_of" 1 p_twos_of sp_twos_of) (Csteps_in : Df P w K mg base "steps_in" 1 p_steps_in sp_steps_in) : FnOk P w K mg base CX0 2 f fd p_weight_of sp_weight_of := by
  refine F.ok sc_weight_of (fun vs H Q E h => ?_) (fun cdv A outer s H vs Q E hr h => ?_)
  · obtain ⟨a, fs, o, rfl, _⟩ := h
    rfl
  · obtain ⟨a, fs, o, rfl, ht, S, ho, k⟩ := h
    refine ⟨_, (pss_cons (ps_setLc (i := 2) (own := [("step", 3)]) (g := (gName 3)) (tt := (tTest (tOp rEq (tOp (rI (fun _ j => 0 < j) fun i j => .int (i % j)) (tVar 3) (tVar 1)) (tC (.int 0))))) (te := (tVar 3)) rfl sc_weight_of.nd rfl rfl (sw_true rfl rfl rfl (by decide +kernel)) (pi_tup (pe_df Csteps_in (hr.mono (by decide)) (by rfl) (pa_cons (pv 0) pa_nil))) (blkOk_by (own := [("step", 3)]) (N := n_weight_of) (sc := defScope s_weight_of) (by decide +kernel)) (fun _ _ _ _ _ => (pg_name (i := 3) sc_weight_of.nd rfl (by first | exact Or.inl rfl | exact Or.inr rfl))) (fun _ _ _ _ _ => pts_one (pt_cmpR op_eq (pe_op op_mod (pv 3) (pv 1)) pe_int (nomark _))) (fun _ _ _ _ _ => (pv 3)))
    (pss_one (ps_ret (pe_op op_add (pe_callB (cr_sum rfl) (by rfl) T.sum PyProof.Rows.boot_sum (pa_cons (pe_lc (own := [("step", 3)]) (g := (gName 3)) (tt := tYes) (te := (tDf sp_twos_of (tCons (tVar 3) tNil))) rfl sc_weight_of.nd (pi_list (pv 2)) (blkOk_by (own := [("step", 3)]) (N := n_weight_of) (sc := defScope s_weight_of) (by decide +kernel)) (fun _ _ _ _ _ => (pg_name (i := 3) sc_weight_of.nd rfl (by first | exact Or.inl rfl | exact Or.inr rfl))) (fun _ _ _ _ _ => pts_nil) (fun _ _ _ _ _ => (pe_df Ctwos_of (hr.mono (by decide)) (by rfl) (pa_cons (pv 3) pa_nil)))) pa_nil)) (pe_ifExp (pt_cmpR op_eq (pv 1) pe_int (nomark _)) (pe_op op_add pe_int (pe_callTy call_int2 (by rfl) T.int PyProof.Rows.boot_int (pa_cons (pe_cmpR op_eq (pe_op op_mod (pe_ix ix_tup (pv 0) pe_int (fun _ _ => rfl)) pe_int) pe_int (nomark _)) pa_nil))) pe_int))))), ?_⟩
    have sl := steps_length fs
    have s12 := S.len
    refine ⟨_, rfl, a, fs, rfl, ht, S.len, fun p H1 hp sm hs => ⟨p, rfl, ⟨_, hs.sq⟩, fun D hD => lc_tup (K := K) (a := p) (xs := (steps fs).map V.int) (fun i H2 => Same H1 H2 ∧ LstAt H2 D (((steps fs).take i).filter fun s => decide (s % o = 0))) ⟨same_new (Same.refl H1) hD, upd_same⟩ (fun i H2 _ q => same_t q.1 hs.sq) ?_ ?_⟩⟩
    · rintro i x H2 hx ⟨s2, hd⟩
      obtain ⟨v, hv, rfl⟩ : ∃ v, (steps fs)[i]? = some v ∧ V.int v = x := by simpa using hx
      have il := (List.getElem?_eq_some_iff.mp hv).1
      refine ⟨rfl, _, rfl, _, rfl, v, o, rfl, rfl, ho, rfl, _, rfl, iteD (fun c => ?_) (fun c => ?_)⟩
      · have c0 : v % o = 0 := V.int.inj c
        refine ⟨_, rfl, _, hd, ?_, same_new s2 hD, ?_⟩
        · refine szl ?_
          have := List.length_filter_le (fun s => decide (s % o = 0)) ((steps fs).take i)
          rw [List.length_take] at this
          rw [List.length_map]
          omega
        · show upd _ _ _ _ = _
          rw [upd_same, filter_take hv, if_pos (decide_eq_true c0), List.map_append]
          rfl
      · have c0 : ¬ v % o = 0 := fun e => c (congrArg V.int e)
        refine ⟨s2, ?_⟩
        rw [filter_take hv, if_neg (by simpa using c0), List.append_nil]
        exact hd
    · rintro H2 ⟨s2, hd⟩
      rw [List.length_map, List.take_length] at hd
      have hpos : ∀ s ∈ (steps fs).filter fun s => decide (s % o = 0), 0 < s := fun s hs => S.pos s (List.mem_filter.mp hs).1
      have hfl := List.length_filter_le (fun s => decide (s % o = 0)) (steps fs)
      refine ⟨_, rfl, D, rfl, ⟨_, hd.sq⟩, fun D2 hD2 => lc_list (K := K) (a := D) (xs := ((steps fs).filter fun s => decide (s % o = 0)).map V.int) (fun i H3 => Same H2 H3 ∧ LstAt H3 D2 ((((steps fs).filter fun s => decide (s % o = 0)).take i).map twos)) ⟨same_new (Same.refl H2) hD2, upd_same⟩ (fun i H3 _ q => q.1.seq hd.sq) ?_ ?_⟩
      · rintro i x H3 hx ⟨s3, hd3⟩
        obtain ⟨v, hv, rfl⟩ : ∃ v, ((steps fs).filter fun s => decide (s % o = 0))[i]? = some v ∧ V.int v = x := by
          rw [List.getElem?_map, Option.map_eq_some_iff] at hx
          exact hx
        have il := (List.getElem?_eq_some_iff.mp hv).1
        refine ⟨rfl, yes_ok ?_⟩
        refine ⟨_, rfl, v, rfl, hpos v (List.mem_of_getElem? hv), _, hd3, ?_, same_new s3 hD2, ?_⟩
        · refine szl ?_
          simp only [List.length_map, List.length_take]
          omega
        · show upd _ _ _ _ = _
          rw [upd_same, List.take_add_one, hv, List.map_append, List.map_append]
          rfl
      · rintro H3 ⟨s3, hd3⟩
        rw [List.length_map, List.take_length] at hd3
        have sA : Same H H3 := (sm.trans s2).trans s3
        refine ⟨D2, _, rfl, hd3.sq, ?_⟩
        refine ⟨_, rfl, rfl, _, rfl, iteD (fun c => ?_) (fun c => ?_)⟩
        · have c0 : o = 1 := V.int.inj c
          obtain ⟨h0, r, rfl⟩ := List.exists_cons_of_ne_nil S.ne
          refine ⟨_, rfl, a, _, 0, .int h0, rfl, rfl, same_t sA ht.sq, atI_nat (j := 0) rfl, _, _, rfl, rfl, (by show (0 : Int) < 2; decide), rfl, .inr ⟨_, rfl, _, _, rfl, rfl, _, _, rfl, rfl, ?_⟩⟩
          have e : ∀ z : Int, z = weight (h0 :: r) o → Q (.int z) H3 := fun z hz => by rw [hz]; exact k H3 sA
          refine e _ ?_
          unfold weight
          rw [if_pos c0]
          congr 2
          show (if decide (V.int (h0 % 2) = V.int 0) = true then (1 : Int) else 0) = if h0 % 2 = 0 then 1 else 0
          by_cases z : h0 % 2 = 0
          · rw [if_pos z, z]; rfl
          · rw [if_neg z, if_neg]
            simp only [decide_eq_true_eq]
            exact fun q => z (V.int.inj q)
        · have c0 : ¬ o = 1 := fun e => c (congrArg V.int e)
          refine ⟨_, _, rfl, rfl, ?_⟩
          have e : ∀ z : Int, z = weight fs o → Q (.int z) H3 := fun z hz => by rw [hz]; exact k H3 sA
          refine e _ ?_
          unfold weight
          rw [if_neg c0]
end
end Wet

end
section
set_option maxRecDepth 100000
namespace Wet
open PySem L2
/-! ### dicts that tell which odd numbers were met -/
def kb (l : List Int) : List (Key × V) := l.map fun k => (Sum.inl k, V.bl true)
theorem kb_any (l : List Int) (k : Int) : ((kb l).any fun kv => decide (kv.1 = (Sum.inl k : Key))) = decide (k ∈ l) := by
  unfold kb
  rw [List.any_map, Bool.eq_iff_iff, List.any_eq_true, decide_eq_true_iff]
  constructor
  · rintro ⟨x, hx, e⟩
    have e2 : (Sum.inl x : Key) = Sum.inl k := of_decide_eq_true e
    rw [← Sum.inl.inj e2]
    exact hx
  · intro h
    exact ⟨k, h, decide_eq_true rfl⟩
theorem putK_kb (l : List Int) (k : Int) : putK (kb l) (Sum.inl k) (.bl true) = kb (if k ∈ l then l else l ++ [k]) := by
  unfold putK
  rw [kb_any]
  by_cases h : k ∈ l
  · rw [if_pos (decide_eq_true h), if_pos h]
    unfold kb
    rw [List.map_map]
    refine List.map_congr_left fun x _ => ?_
    show (if (Sum.inl x : Key) = Sum.inl k then ((Sum.inl x : Key), V.bl true) else ((Sum.inl x : Key), V.bl true)) = ((Sum.inl x : Key), V.bl true)
    rw [ite_self]
  · rw [if_neg (by simpa using h), if_neg h]
    unfold kb
    rw [List.map_append]
    rfl
theorem mergeK_kb : ∀ more acc : List Int, mergeK (kb acc) (kb more) = kb (addU acc more)
  | [], acc => rfl
  | k :: r, acc => by
    show mergeK (putK (kb acc) (Sum.inl k) (.bl true)) (kb r) = kb (addU (if k ∈ acc then acc else acc ++ [k]) r)
    rw [putK_kb, mergeK_kb]
theorem addU_fresh : ∀ (more acc : List Int), (acc ++ more).Nodup → addU acc more = acc ++ more
  | [], acc, _ => by simp [addU]
  | k :: r, acc, h => by
    have h1 : k ∉ acc := by
      intro hk
      rw [List.nodup_append] at h
      exact h.2.2 k hk k List.mem_cons_self rfl
    show addU (if k ∈ acc then acc else acc ++ [k]) r = _
    rw [if_neg h1, addU_fresh r (acc ++ [k]) (by simpa using h)]
    simp
theorem mergeK_nil (l : List Int) (h : l.Nodup) : mergeK [] (kb l) = kb l := by
  have e := mergeK_kb l []
  rw [addU_fresh l [] (by simpa using h)] at e
  exact e
theorem addU_length : ∀ (more acc : List Int), (addU acc more).length ≤ acc.length + more.length
  | [], acc => by simp [addU]
  | k :: r, acc => by
    show (addU (if k ∈ acc then acc else acc ++ [k]) r).length ≤ _
    have ih := addU_length r (if k ∈ acc then acc else acc ++ [k])
    split at ih
    · rename_i c
      rw [if_pos c]
      simp only [List.length_cons]
      omega
    · rename_i c
      rw [if_neg c]
      simp only [List.length_append, List.length_cons, List.length_nil] at ih ⊢
      omega
theorem insU_length (x : Int) : ∀ l : List Int, (insU x l).length ≤ l.length + 1
  | [] => Nat.le_refl _
  | y :: r => by
    unfold insU
    split
    · simp
    · split
      · simp
      · have := insU_length x r
        simp only [List.length_cons]
        omega
theorem sset_length : ∀ l : List Int, (sset l).length ≤ l.length
  | [] => Nat.le_refl _
  | x :: r => by
    have h1 := sset_length r
    have h2 := insU_length x (sset r)
    unfold sset
    simp only [List.length_cons]
    omega
theorem few_length {n : Int} (h : Few n) : (oddParts n).length ≤ 62 := by
  have h1 := sset_length (lowOf (oddOf n) ++ (lowOf (oddOf n)).map fun p => oddOf n / p)
  have h2 := h.2.2
  unfold oddParts
  rw [List.length_append, List.length_map] at h1
  omega
/-- the odd numbers met by the first i steps -/
def oddsTo (fs : List Int) (i : Nat) : List Int := ((steps fs).take i).foldl (fun acc s => addU acc (oddParts s)) [1]
theorem oddsTo_succ {fs : List Int} {i : Nat} {s : Int} (h : (steps fs)[i]? = some s) : oddsTo fs (i + 1) = addU (oddsTo fs i) (oddParts s) := by
  unfold oddsTo
  rw [List.take_add_one, h, List.foldl_append]
  rfl
theorem oddsTo_nodup (fs : List Int) (i : Nat) : (oddsTo fs i).Nodup := (odds_gen _ _ (by simp)).1
theorem oddsTo_all (fs : List Int) : oddsTo fs (steps fs).length = odds fs := by
  unfold oddsTo odds
  rw [List.take_length]
theorem oddsTo_length {fs : List Int} (hF : ∀ s ∈ steps fs, Few s) : ∀ i, (oddsTo fs i).length ≤ 1 + 62 * i
  | 0 => by simp [oddsTo]
  | i + 1 => by
    have ih := oddsTo_length hF i
    cases h : (steps fs)[i]? with
    | none =>
      have e : oddsTo fs (i + 1) = oddsTo fs i := by
        unfold oddsTo
        rw [List.take_add_one, h]
        simp
      rw [e]
      omega
    | some s =>
      rw [oddsTo_succ h]
      have h1 := addU_length (oddParts s) (oddsTo fs i)
      have h2 := few_length (hF s (List.mem_of_getElem? h))
      omega
/-- the sizes by the first i odd numbers -/
def rawTo (fs : List Int) (i : Nat) : List Int := ((odds fs).take i).flatMap fun o => dbl o (weight fs o)
theorem rawTo_succ {fs : List Int} {i : Nat} {o : Int} (h : (odds fs)[i]? = some o) : rawTo fs (i + 1) = rawTo fs i ++ dbl o (weight fs o) := by
  unfold rawTo
  rw [List.take_add_one, h, List.flatMap_append]
  simp
theorem rawTo_all (fs : List Int) : rawTo fs (odds fs).length = toldRaw fs := by
  unfold rawTo toldRaw
  rw [List.take_length]
theorem dbl_length {o n : Int} (h : n ≤ 100000000) : (dbl o n).length ≤ 27 := by
  unfold dbl
  rw [List.length_map, List.length_range]
  by_cases c : powW n + 1 ≤ 27
  · omega
  · have h2 := (powW_iff (w := n) 27).mp (by omega)
    have e : (2 : Int) ^ 27 = 134217728 := by decide
    omega
theorem rawTo_length {fs : List Int} (hw : ∀ o ∈ odds fs, weight fs o ≤ 100000000) : ∀ i, (rawTo fs i).length ≤ 27 * i
  | 0 => by simp [rawTo]
  | i + 1 => by
    have ih := rawTo_length hw i
    cases h : (odds fs)[i]? with
    | none =>
      have e : rawTo fs (i + 1) = rawTo fs i := by
        unfold rawTo
        rw [List.take_add_one, h]
        simp
      rw [e]
      omega
    | some o =>
      rw [rawTo_succ h, List.length_append]
      have := dbl_length (o := o) (hw o (List.mem_of_getElem? h))
      omega
/-- a row with folds, none of whose steps is 0 or has too many odd divisors -/
structure Fine (fs : List Int) : Prop extends Some0 fs where
  few : ∀ s ∈ steps fs, Few s
  sum : (steps fs).sum ≤ 90000000
theorem Fine.wt {fs : List Int} (F : Fine fs) {o : Int} (h : o ∈ odds fs) : weight fs o ≤ 100000000 := by
  obtain ⟨h1, h2⟩ := odds_odd F.pos h
  have h3 := weight_le F.pos h1 h2
  have h4 := Int.mul_le_mul_of_nonneg_right (show 1 ≤ o by omega) (weight_nonneg F.pos o)
  have := F.sum
  omega
theorem Fine.odd_le {fs : List Int} (F : Fine fs) {o : Int} (h : o ∈ odds fs) : o ≤ 2000000 := by
  rcases (odds_mem fs o).mp h with rfl | ⟨s, hs, ho⟩
  · decide
  · have f := F.few s hs
    obtain ⟨h1, h2⟩ := (oddParts_mem f.1 o).mp ho
    have h3 := Int.le_of_dvd (oddOf_pos f.1) h2
    have h4 := twos_mul_div f.1
    have h5 := twos_pos f.1
    have h6 := Int.mul_le_mul_of_nonneg_right (show 1 ≤ twos s by omega) (Int.le_of_lt (oddOf_pos f.1))
    have := f.2.1
    unfold oddOf at h3 h6
    omega
section
variable {P : Program} {w : World} {K : PySem.W.Frag} {mg : Str → Option Value} {base : Heap}
abbrev s_is_washed : Stmt := top 23
abbrev n_is_washed : List Str := ["size", "folds", "twos"]
abbrev p_is_washed : List Str := ["size", "folds"]
theorem sc_is_washed : FnScope n_is_washed p_is_washed (defScope s_is_washed) := ⟨rfl, rfl, rfl, by decide +kernel, rfl, by decide +kernel, by decide +kernel⟩
def sp_is_washed : Sp := fun vs H Q _ => ∃ (n : Int) (a : Addr) (fs : List Int), vs = [.int n, .ref a] ∧ TupAt H a fs ∧ Some0 fs ∧ 0 < n ∧ n ≤ 1000000 ∧ ∀ H', Same H H' → Q (.bl (decide (twos n ≤ weight fs (oddOf n)))) H'
theorem no0 {fs : List Int} (h : ∀ s ∈ steps fs, 0 < s) : ¬ (0 : Int) ∈ steps fs := fun q => by have := h 0 q; omega
theorem ok_is_washed {f : Addr} {fd : FuncData} (F : Fun K "is_washed" "is_washed" s_is_washed f fd) (T : Bt mg) (Ctwos_of : Df P w K mg base "twos_of" 1 p_twos_of sp_twos_of) (Csteps_in : Df P w K mg base "steps_in" 1 p_steps_in sp_steps_in) (Cweight_of : Df P w K mg base "weight_of" 2 p_weight_of sp_weight_of) :
    FnOk P w K mg base CX0 3 f fd p_is_washed sp_is_washed := by
  refine F.ok sc_is_washed (fun vs H Q E h => ?_) (fun cdv A outer s H vs Q E hr h => ?_)
  · obtain ⟨n, a, fs, rfl, _⟩ := h
    rfl
  · obtain ⟨n, a, fs, rfl, ht, S, hn, hn2, k⟩ := h
    refine ⟨_, (pss_cons (ps_if (pw_or (pt_cmpR (op_eqD hr.units) (pv 1) (pe_tup pa_nil) (nomark _)) (pw_or1 (pt_cmpR op_in_seq pe_int (pe_df Csteps_in (hr.mono (by decide)) (by rfl) (pa_cons (pv 1) pa_nil)) (by first | rfl | with_unfolding_all rfl)))).pt (pss_one (ps_ret (pe_cmpR (op_neD hr.units) (pv 1) (pe_tup pa_nil) (nomark _)))) pss_nil)
    (pss_cons (ps_set (i := 2) sc_is_washed.nd rfl (Or.inl rfl) (pe_df Ctwos_of (hr.mono (by decide)) (by rfl) (pa_cons (pv 0) pa_nil)))
    (pss_one (ps_ret (pe_cmpR op_ge (pe_df Cweight_of (hr.mono (by decide)) (by rfl) (pa_cons (pv 1) (pa_cons (pe_op op_fdiv (pv 0) (pv 2)) pa_nil))) (pv 2) (nomark _)))))), ?_⟩
    refine ⟨_, rfl, sz 0, fun p hp => ?_⟩
    have s1 := same_new (Same.refl H) hp (o := .tup [])
    refine eqT_ok (gs := []) (same_t s1 ht.sq) (SqT.of upd_same) ⟨_, rfl, iteD (fun h => absurd h S.ne) (fun _ => ?_)⟩
    refine ⟨_, rfl, a, fs, rfl, ht.same s1, S.len, fun q H1 hq s2 hs => inT_ok hs.sq ⟨_, rfl, iteD (fun h => absurd h (no0 S.pos)) (fun _ => ?_)⟩⟩
    have s3 := s1.trans s2
    refine ⟨_, rfl, n, rfl, hn, ?_⟩
    have tp := twos_pos hn
    have tl := twos_le hn
    refine ⟨_, rfl, _, rfl, _, rfl, _, _, rfl, rfl, ⟨tp, by omega⟩, a, fs, _, rfl, ht.same s3, S, oddOf_pos hn, fun H2 s4 => ⟨_, rfl, _, _, rfl, rfl, ?_⟩⟩
    exact k H2 (s3.trans s4)
abbrev s_sizes_washed : Stmt := top 24
abbrev n_sizes_washed : List Str := ["folds", "odds", "step", "found", "odd"]
abbrev p_sizes_washed : List Str := ["folds"]
theorem sc_sizes_washed : FnScope n_sizes_washed p_sizes_washed (defScope s_sizes_washed) := ⟨rfl, rfl, rfl, by decide +kernel, rfl, by decide +kernel, by decide +kernel⟩
def sp_sizes_washed : Sp := fun vs H Q _ => ∃ (a : Addr) (fs : List Int), vs = [.ref a] ∧ TupAt H a fs ∧ Fine fs ∧ ∀ p H', H p = none → Same H H' → LstAt H' p (told fs) → Q (.ref p) H'
theorem ok_sizes_washed {f : Addr} {fd : FuncData} (F : Fun K "sizes_washed" "sizes_washed" s_sizes_washed f fd) (T : Bt mg) (Csteps_in : Df P w K mg base "steps_in" 1 p_steps_in sp_steps_in) (Codd_parts : Df P w K mg base "odd_parts" 2 p_odd_parts sp_odd_parts)
    (Cweight_of : Df P w K mg base "weight_of" 2 p_weight_of sp_weight_of) (Cdoubled_up : Df P w K mg base "doubled_up" 1 p_doubled_up sp_doubled_up) : FnOk P w K mg base CX0 3 f fd p_sizes_washed sp_sizes_washed := by
  refine F.ok sc_sizes_washed (fun vs H Q E h => ?_) (fun cdv A outer s H vs Q E hr h => ?_)
  · obtain ⟨a, fs, rfl, _⟩ := h
    rfl
  · obtain ⟨a, fs, rfl, ht, Fi, k⟩ := h
    refine ⟨_, (pss_cons (ps_set (i := 1) sc_sizes_washed.nd rfl (Or.inl rfl) (pe_disp (pps_cons pe_int pe_bl pps_nil) (by rfl) (by rfl) (fun z => by cases z) (by decide)))
    (pss_cons (ps_for PassesOwn.never rfl (pi_tup (pe_df Csteps_in (hr.mono (by decide)) (by rfl) (pa_cons (pv 0) pa_nil))) (pg_name (i := 2) sc_sizes_washed.nd rfl (by first | exact Or.inl rfl | exact Or.inr rfl))
        (pss_one (ps_set (i := 1) sc_sizes_washed.nd rfl (Or.inl rfl) (pe_dmerge (pv 1) (pe_callTy (call_dictP rfl) (by rfl) T.dict PyProof.Rows.boot_dict (pa_cons (pe_lc (own := [("odd", 4)]) (g := (gName 4)) (tt := tYes) (te := (tTup (tCons (tVar 4) (tCons (tC (.bl true)) tNil)))) rfl sc_sizes_washed.nd (pi_list (pe_df Codd_parts (hr.mono (by decide)) (by rfl) (pa_cons (pv 2) pa_nil))) (blkOk_by (own := [("odd", 4)]) (N := n_sizes_washed) (sc := defScope s_sizes_washed) (by decide +kernel)) (fun _ _ _ _ _ => (pg_name (i := 4) sc_sizes_washed.nd rfl (by first | exact Or.inl rfl | exact Or.inr rfl))) (fun _ _ _ _ _ => pts_nil) (fun _ _ _ _ _ => (pe_tup (pa_cons (pv 4) (pa_cons pe_bl pa_nil))))) pa_nil))))))
    (pss_cons (ps_set (i := 3) sc_sizes_washed.nd rfl (Or.inl rfl) (pe_lst pa_nil))
    (pss_cons (ps_lock (ps_for PassesOwn.never rfl (pi_keys (pv 1)) (pg_name (i := 4) sc_sizes_washed.nd rfl (by first | exact Or.inl rfl | exact Or.inr rfl))
        (pss_one (ps_set (i := 3) sc_sizes_washed.nd rfl (Or.inl rfl) (pe_op op_cat (pv 3) (pe_df Cdoubled_up (hr.mono (by decide)) (by rfl) (pa_cons (pv 4) (pa_cons (pe_df Cweight_of (hr.mono (by decide)) (by rfl) (pa_cons (pv 0) (pa_cons (pv 4) pa_nil))) pa_nil))))))))
    (pss_one (ps_ret (pe_callB cr_sortedI (by rfl) T.sorted PyProof.Rows.boot_sorted (pa_cons (pv 3) pa_nil)))))))), ?_⟩
    have s12 := Fi.len
    have sl := steps_length fs
    -- odds = {1: True}
    refine fun d0 hd0 => ⟨upd_same, [(Sum.inl 1, .bl true)], rfl, by decide, ?_⟩
    have sm0 : Same H (upd (upd H d0 (.dK [])) d0 (.dK (mergeK [] [(Sum.inl 1, .bl true)]))) := same_new (same_new (Same.refl H) hd0) hd0
    have e0 : mergeK [] [((Sum.inl 1 : Key), V.bl true)] = kb (oddsTo fs 0) := mergeK_nil [1] (by simp)
    rw [e0] at sm0 ⊢
    -- for step in steps_in(folds)
    refine ⟨_, rfl, a, fs, rfl, ht.same sm0, Fi.len, fun p H1 hp sm1 hs => ⟨p, rfl, ⟨_, hs.sq⟩, for_it (walk_tup (xs := (steps fs).map V.int)) (fun i σ H' => ∃ (d : Addr) (v : Option V), σ = [some (.ref a), some (.ref d), v, none, none] ∧ H d = none ∧ Same H H' ∧ TupAt H' p (steps fs) ∧ H' d = some (.dK (kb (oddsTo fs i))))
      ⟨d0, none, rfl, hd0, sm0.trans sm1, hs, sm1 _ _ upd_same⟩ (fun i σ H' _ ⟨_, _, _, _, _, q, _⟩ => q.sq) ?_ ?_⟩⟩
    · rintro i x σ H' H'' hi ⟨d, v, rfl, hd, sm, hs', hD⟩ ⟨rfl, hx⟩
      obtain ⟨z, hz, rfl⟩ : ∃ z, (steps fs)[i]? = some z ∧ V.int z = x := by simpa using hx
      have zm := List.mem_of_getElem? hz
      have fz := Fi.few z zm
      have fl := few_length fz
      have ol := oddsTo_length Fi.few i
      rw [List.length_map] at hi
      -- {**odds, **dict([(odd, True) for odd in odd_parts(step)])}
      refine fun e he => ⟨_, rfl, d, kb (oddsTo fs i), rfl, (ne_of_none hD he).symm, upd_same, by rw [upd_ne (ne_of_none hD he)]; exact hD, ?_⟩
      rw [mergeK_nil _ (oddsTo_nodup fs i)]
      have se : Same H'' (upd (upd H'' e (.dK [])) e (.dK (kb (oddsTo fs i)))) := same_new (same_new (Same.refl H'') he) he
      refine ⟨_, rfl, z, rfl, fz, fun q H2 hq sm2 hL => ⟨q, rfl, ⟨_, hL.sq⟩, fun D hDn => lc_list (K := K) (a := q) (xs := (oddParts z).map V.int)
        (fun j H3 => Same H2 H3 ∧ ∃ ps : List Addr, H3 D = some (.lst (ps.map V.ref)) ∧ ps.length = j ∧ Paired (fun (p : Addr) (kv : Key × V) => H3 p = some (.tup [kV kv.1, kv.2])) ps (kb ((oddParts z).take j)))
        ⟨same_new (Same.refl H2) hDn, [], upd_same, rfl, .nil⟩ (fun j H3 _ g => g.1.seq hL.sq) ?_ ?_⟩⟩
      · rintro j y H3 hy ⟨s3, ps, hps, hpl, hpp⟩
        obtain ⟨o, ho, rfl⟩ : ∃ o, (oddParts z)[j]? = some o ∧ V.int o = y := by simpa using hy
        have jl := (List.getElem?_eq_some_iff.mp ho).1
        refine ⟨rfl, yes_ok ?_⟩
        refine ⟨_, rfl, sz 2, fun t htn => ?_⟩
        have nDt : D ≠ t := ne_of_none hps htn
        refine ⟨_, by rw [upd_ne nDt]; exact hps, by rw [List.length_map]; exact szl (by omega), same_new (same_new' s3 htn) hDn, ps ++ [t], ?_, by simp [hpl], ?_⟩
        · rw [upd_same, List.map_append]
          rfl
        · rw [List.take_add_one, ho]
          unfold kb
          rw [List.map_append]
          refine Paired.snoc (Paired.mapP hpp fun p kv hkv => ?_) ?_
          · have n1 : p ≠ D := ne_of hkv hps (by intro z; cases z)
            rw [upd_ne n1, upd_ne (ne_of_none hkv htn)]
            exact hkv
          · rw [upd_ne nDt.symm, upd_same]
            rfl
      · rintro H3 ⟨s3, ps, hps, hpl, hpp⟩
        rw [List.length_map, List.take_length] at hpp
        refine ⟨D, ps, kb (oddParts z), rfl, SqL.of hps, Paired.mapP hpp fun p kv hkv => SqT.of hkv, fun g hg => ?_⟩
        have nod : (oddParts z).Nodup := by
          have := sset_lt (lowOf (oddOf z) ++ (lowOf (oddOf z)).map fun p => oddOf z / p)
          exact this.imp fun h => Int.ne_of_lt h
        rw [mergeK_nil _ nod]
        have he3 : H3 e = some (.dK (kb (oddsTo fs i))) := s3 _ _ (sm2 _ _ upd_same)
        refine ⟨g, kb (oddParts z), rfl, ne_of_none he3 hg, by rw [upd_ne (ne_of_none he3 hg)]; exact he3, upd_same, ?_, ?_⟩
        · unfold kb
          rw [List.length_map, List.length_map]
          exact szle (by omega)
        · rw [mergeK_kb, ← oddsTo_succ hz]
          have sA : Same H'' (upd (upd H3 g (.dK (kb (oddParts z)))) e (.dK (kb (oddsTo fs (i + 1))))) := same_new (same_new' ((se.trans sm2).trans s3) hg) he
          exact ⟨e, some (.int z), rfl, sm.free he, sm.trans sA, hs'.same sA, upd_same⟩
    · rintro σ H' ⟨d, v, rfl, hd, sm, hs', hD⟩
      rw [List.length_map, oddsTo_all] at hD
      -- found = []
      refine ⟨sz 0, fun l0 hl0 => ?_⟩
      have sl0 : Same H' (upd H' l0 (.lst [])) := same_new (Same.refl H') hl0
      have ol := oddsTo_length Fi.few (steps fs).length
      rw [oddsTo_all] at ol
      have rl := rawTo_length (fs := fs) (fun o ho => Fi.wt ho)
      -- for odd in odds
      refine ⟨d, .dK (kb (odds fs)), sl0 _ _ hD, True.intro, fun od => ?_⟩
      have dl0 : d ≠ l0 := ne_of_none hD hl0
      refine ⟨_, rfl, d, od, rfl, .inl ⟨kb (odds fs), upd_same, for_it walk_keys (fun i σ H2 => ∃ (l : Addr) (v2 : Option V), σ = [some (.ref a), some (.ref d), v, some (.ref l), v2] ∧ TupAt H2 a fs ∧ H2 d = some (.frz od (.dK (kb (odds fs)))) ∧ Same H H2 ∧ LstAt H2 l (rawTo fs i))
        ⟨l0, none, rfl, ?_, upd_same, ?_, ?_⟩ (fun i σ H2 _ ⟨_, _, _, _, q, _⟩ => q) ?_ ?_⟩⟩
      · exact ht.same (same_new (sm.trans sl0) hd)
      · exact same_new (sm.trans sl0) hd
      · show upd _ _ _ _ = _
        rw [upd_ne dl0.symm, upd_same]
        rfl
      · rintro i x σ H2 H3 hi ⟨l, v2, rfl, hA, hDd, s2, hL⟩ ⟨rfl, kk, vv, hk, rfl⟩
        obtain ⟨o, ho, e1⟩ : ∃ o, (odds fs)[i]? = some o ∧ (Sum.inl o, V.bl true) = (kk, vv) := by
          unfold kb at hk
          rw [List.getElem?_map, Option.map_eq_some_iff] at hk
          exact hk
        obtain ⟨rfl, rfl⟩ := Prod.mk.inj e1
        have om := List.mem_of_getElem? ho
        have op := (odds_odd Fi.pos om).1
        have il := (List.getElem?_eq_some_iff.mp ho).1
        refine ⟨_, rfl, _, rfl, _, rfl, _, rfl, a, fs, o, rfl, hA, Fi.toSome0, op, fun H4 s4 => ⟨o, weight fs o, rfl, op, Fi.odd_le om, Fi.wt om, fun q H5 hq s5 hq5 => ?_⟩⟩
        have s45 : Same H3 H5 := s4.trans s5
        have r1 := rl i
        have r2 := dbl_length (o := o) (Fi.wt om)
        refine cat_ok (hL.same s45) hq5 (by omega) fun p2 H6 hp6 _ s6 hL6 => ?_
        have sA := s45.trans s6
        refine ⟨p2, some (.int o), rfl, hA.same sA, sA _ _ hDd, s2.trans sA, ?_⟩
        rw [rawTo_succ ho]
        exact hL6
      · rintro σ H2 ⟨l, v2, rfl, hA, hDd, s2, hL⟩
        refine ⟨hDd, ?_⟩
        have e2 : (kb (odds fs)).length = (odds fs).length := by unfold kb; rw [List.length_map]
        rw [e2, rawTo_all] at hL
        have nld : l ≠ d := ne_of hL hDd (by intro z; cases z)
        refine ⟨_, rfl, l, toldRaw fs, rfl, SqL.of (by rw [upd_ne nld]; exact hL), fun ns q hq hs hn => ?_⟩
        have en := isort_unique hq hs
        subst en
        have sB : Same H (upd H2 d (.dK (kb (odds fs)))) := same_new s2 hd
        exact k q _ (sB.free hn) (same_new' sB hn) upd_same
abbrev s_ring_washes : Stmt := top 25
abbrev n_ring_washes : List Str := ["size", "folds"]
abbrev p_ring_washes : List Str := ["size", "folds"]
theorem sc_ring_washes : FnScope n_ring_washes p_ring_washes (defScope s_ring_washes) := ⟨rfl, rfl, rfl, by decide +kernel, rfl, by decide +kernel, by decide +kernel⟩
def sp_ring_washes : Sp := fun vs H Q _ => ∃ (n : Int) (a : Addr) (fs : List Int), vs = [.int n, .ref a] ∧ TupAt H a fs ∧ Row fs ∧ Some0 fs ∧ 0 < n ∧ n ≤ 1000000 ∧ ∀ H', Same H H' → Q (.bl (decide (twos n ≤ weight fs (oddOf n)))) H'
theorem ok_ring_washes {f : Addr} {fd : FuncData} (F : Fun K "ring_washes" "ring_washes" s_ring_washes f fd) (T : Bt mg) (Cneed_size : Df P w K mg base "need_size" 2 p_need_size sp_need_size) (Cneed_folds : Df P w K mg base "need_folds" 4 p_need_folds sp_need_folds)
    (Cis_washed : Df P w K mg base "is_washed" 3 p_is_washed sp_is_washed) : FnOk P w K mg base CX0 5 f fd p_ring_washes sp_ring_washes := by
  refine F.ok sc_ring_washes (fun vs H Q E h => ?_) (fun cdv A outer s H vs Q E hr h => ?_)
  · obtain ⟨n, a, fs, rfl, _⟩ := h
    rfl
  · obtain ⟨n, a, fs, rfl, ht, hR, S, hn, hn2, k⟩ := h
    refine ⟨_, (pss_cons (ps_expr (pe_df Cneed_size (hr.mono (by decide)) (by rfl) (pa_cons (pv 0) (pa_cons (pe_glob (v := .int 1000000) (by rfl) T.LARGEST.choose_spec ⟨_, rfl⟩) pa_nil))))
    (pss_cons (ps_expr (pe_df Cneed_folds (hr.mono (by decide)) (by rfl) (pa_cons (pv 1) pa_nil)))
    (pss_one (ps_ret (pe_df Cis_washed (hr.mono (by decide)) (by rfl) (pa_cons (pv 0) (pa_cons (pv 1) pa_nil))))))), ?_⟩
    refine ⟨_, rfl, n, 1000000, rfl, by omega, hn2, _, rfl, a, fs, rfl, ht, hR, fun H1 s1 => ?_⟩
    exact ⟨_, rfl, _, rfl, n, a, fs, rfl, ht.same s1, S, hn, hn2, fun H2 s2 => k H2 (s1.trans s2)⟩
abbrev s_washing_rings : Stmt := top 26
abbrev n_washing_rings : List Str := ["folds"]
abbrev p_washing_rings : List Str := ["folds"]
theorem sc_washing_rings : FnScope n_washing_rings p_washing_rings (defScope s_washing_rings) := ⟨rfl, rfl, rfl, by decide +kernel, rfl, by decide +kernel, by decide +kernel⟩
def sp_washing_rings : Sp := fun vs H Q _ => ∃ (a : Addr) (fs : List Int), vs = [.ref a] ∧ TupAt H a fs ∧ Row fs ∧
  (((0 : Int) ∈ steps fs ∧ ∀ H', Same H H' → Q .non H') ∨ (fs = [] ∧ ∀ p H', H p = none → Same H H' → LstAt H' p [] → Q (.ref p) H') ∨ (Fine fs ∧ ∀ p H', H p = none → Same H H' → LstAt H' p (told fs) → Q (.ref p) H'))
theorem ok_washing_rings {f : Addr} {fd : FuncData} (F : Fun K "washing_rings" "washing_rings" s_washing_rings f fd) (T : Bt mg) (Cneed_folds : Df P w K mg base "need_folds" 4 p_need_folds sp_need_folds) (Csteps_in : Df P w K mg base "steps_in" 1 p_steps_in sp_steps_in)
    (Csizes_washed : Df P w K mg base "sizes_washed" 3 p_sizes_washed sp_sizes_washed) : FnOk P w K mg base CX0 5 f fd p_washing_rings sp_washing_rings := by
  refine F.ok sc_washing_rings (fun vs H Q E h => ?_) (fun cdv A outer s H vs Q E hr h => ?_)
  · obtain ⟨a, fs, rfl, _⟩ := h
    rfl
  · obtain ⟨a, fs, rfl, ht, hR, h3⟩ := h
    refine ⟨_, (pss_cons (ps_expr (pe_df Cneed_folds (hr.mono (by decide)) (by rfl) (pa_cons (pv 0) pa_nil)))
    (pss_cons (ps_if (pt_cmpR (op_eqD hr.units) (pv 0) (pe_tup pa_nil) (nomark _)) (pss_one (ps_ret (pe_lst pa_nil))) pss_nil)
    (pss_one (ps_ret (pe_ifExp (pt_cmpR op_in_seq pe_int (pe_df Csteps_in (hr.mono (by decide)) (by rfl) (pa_cons (pv 0) pa_nil)) (by first | rfl | with_unfolding_all rfl)) pe_non (pe_df Csizes_washed (hr.mono (by decide)) (by rfl) (pa_cons (pv 0) pa_nil))))))), ?_⟩
    refine ⟨_, rfl, a, fs, rfl, ht, hR, fun H1 s1 => ?_⟩
    refine ⟨_, rfl, sz 0, fun p hp => ?_⟩
    have s2 : Same H (upd H1 p (.tup [])) := same_new' s1 hp
    refine eqT_ok (gs := []) (same_t s2 ht.sq) (SqT.of upd_same) ⟨_, rfl, iteD (fun c => ?_) (fun c => ?_)⟩
    · rcases h3 with ⟨h0, _⟩ | ⟨_, k⟩ | ⟨Fi, _⟩
      · subst c
        cases h0
      · refine ⟨sz 0, fun q hq => ?_⟩
        exact k q _ (s2.free hq) (same_new' s2 hq) upd_same
      · exact absurd c Fi.ne
    · refine ⟨_, rfl, a, fs, rfl, ht.same s2, hR.1, fun q H2 hq s3 hs => inT_ok hs.sq ⟨_, rfl, iteD (fun d => ?_) (fun d => ?_)⟩⟩
      · rcases h3 with ⟨_, k⟩ | ⟨e, _⟩ | ⟨Fi, _⟩
        · exact k H2 (s2.trans s3)
        · exact absurd e c
        · exact absurd d (no0 Fi.pos)
      · rcases h3 with ⟨h0, _⟩ | ⟨e, _⟩ | ⟨Fi, k⟩
        · exact absurd h0 d
        · exact absurd e c
        · have s4 := s2.trans s3
          exact ⟨_, rfl, a, fs, rfl, ht.same s4, Fi, fun p2 H3 hp2 s5 hL => k p2 H3 (s4.free hp2) (s4.trans s5) hL⟩
abbrev s_washing_power : Stmt := top 27
abbrev n_washing_power : List Str := ["folds", "odd"]
abbrev p_washing_power : List Str := ["folds", "odd"]
theorem sc_washing_power : FnScope n_washing_power p_washing_power (defScope s_washing_power) := ⟨rfl, rfl, rfl, by decide +kernel, rfl, by decide +kernel, by decide +kernel⟩
/-- what is told of an odd number: None, -1, the power -/
def wp (fs : List Int) (o : Int) : V := if (0 : Int) ∈ steps fs then .non else if fs = [] then .int (-1) else .int (powW (weight fs o))
def sp_washing_power : Sp := fun vs H Q _ => ∃ (a : Addr) (fs : List Int) (o : Int), vs = [.ref a, .int o] ∧ TupAt H a fs ∧ Row fs ∧ 3 ≤ o ∧ o ≤ 1000000 ∧ o % 2 = 1 ∧ ∀ H', Same H H' → Q (wp fs o) H'
theorem ok_washing_power {f : Addr} {fd : FuncData} (F : Fun K "washing_power" "washing_power" s_washing_power f fd) (T : Bt mg) (Cneed_folds : Df P w K mg base "need_folds" 4 p_need_folds sp_need_folds) (Cis_whole : Df P w K mg base "is_whole" 1 p_is_whole sp_is_whole)
    (Csteps_in : Df P w K mg base "steps_in" 1 p_steps_in sp_steps_in) (Cweight_of : Df P w K mg base "weight_of" 2 p_weight_of sp_weight_of) (Cpower_within : Df P w K mg base "power_within" 1 p_power_within sp_power_within) : FnOk P w K mg base CX0 5 f fd p_washing_power sp_washing_power := by
  refine F.ok sc_washing_power (fun vs H Q E h => ?_) (fun cdv A outer s H vs Q E hr h => ?_)
  · obtain ⟨a, fs, o, rfl, _⟩ := h
    rfl
  · obtain ⟨a, fs, o, rfl, ht, hR, h3, h6, ho, k⟩ := h
    refine ⟨_, (pss_cons (ps_expr (pe_df Cneed_folds (hr.mono (by decide)) (by rfl) (pa_cons (pv 0) pa_nil)))
    (pss_cons (ps_if (pw_or (pt_not (pt_val (pe_df Cis_whole (hr.mono (by decide)) (by rfl) (pa_cons (pv 1) (pa_cons pe_int (pa_cons (pe_glob (v := .int 1000000) (by rfl) T.LARGEST.choose_spec ⟨_, rfl⟩) pa_nil)))))) (pw_or1 (pt_cmpR op_eq (pe_op op_mod (pv 1) pe_int) pe_int (nomark _)))).pt (pss_one ps_never) pss_nil)
    (pss_cons (ps_if (pt_cmpR op_in_seq pe_int (pe_df Csteps_in (hr.mono (by decide)) (by rfl) (pa_cons (pv 0) pa_nil)) (by first | rfl | with_unfolding_all rfl)) (pss_one (ps_ret pe_non)) pss_nil)
    (pss_one (ps_ret (pe_ifExp (pt_cmpR (op_neD hr.units) (pv 0) (pe_tup pa_nil) (nomark _)) (pe_df Cpower_within (hr.mono (by decide)) (by rfl) (pa_cons (pe_df Cweight_of (hr.mono (by decide)) (by rfl) (pa_cons (pv 0) (pa_cons (pv 1) pa_nil))) pa_nil)) (pe_un un_neg pe_int))))))), ?_⟩
    refine ⟨_, rfl, a, fs, rfl, ht, hR, fun H1 s1 => ?_⟩
    refine ⟨_, rfl, o, 3, 1000000, rfl, h3, h6, true, rfl, ?_⟩
    refine iteF ?_
    refine ⟨_, rfl, _, _, rfl, rfl, (by show (0 : Int) < 2; decide), rfl, _, rfl, iteD (fun c => ?_) (fun _ => ?_)⟩
    · have := V.int.inj c
      omega
    · refine ⟨_, rfl, a, fs, rfl, ht.same s1, hR.1, fun q H2 hq s2 hs => inT_ok hs.sq ⟨_, rfl, iteD (fun d => ?_) (fun d => ?_)⟩⟩
      · have := k H2 (s1.trans s2)
        unfold wp at this
        rw [if_pos d] at this
        exact this
      · have s3 := s1.trans s2
        refine ⟨_, rfl, sz 0, fun p hp => ?_⟩
        have s4 : Same H (upd H2 p (.tup [])) := same_new' s3 hp
        refine neT_ok (gs := []) (same_t s4 ht.sq) (SqT.of upd_same) ⟨_, rfl, iteN (fun c => ?_) (fun c => ?_)⟩
        · have S : Some0 fs := ⟨hR.1, c, fun s hs => by
            have h1 := steps_nonneg fs s hs
            rcases Int.lt_or_eq_of_le h1 with l | l
            · exact l
            · exact absurd (l ▸ hs) d⟩
          refine ⟨_, rfl, _, rfl, a, fs, o, rfl, ht.same s4, S, by omega, fun H3 s5 => ⟨_, rfl, weight_nonneg S.pos o, ?_⟩⟩
          have := k H3 (s4.trans s5)
          unfold wp at this
          rw [if_neg d, if_neg c] at this
          exact this
        · refine ⟨1, rfl, ?_⟩
          have := k _ s4
          unfold wp at this
          rw [if_neg d, if_pos c] at this
          exact this
end
end Wet

end
section
set_option maxRecDepth 100000
namespace Wet
open PySem L2
/-! ### the cup: the one object that changes -/
def SB (c : Addr) (H H' : Hp) : Prop := ∀ b o, b ≠ c → H b = some o → H' b = some o
theorem SB.refl (c : Addr) (H : Hp) : SB c H H := fun _ _ _ h => h
theorem SB.trans {c : Addr} {H H1 H2 : Hp} (a : SB c H H1) (b : SB c H1 H2) : SB c H H2 := fun x o n h => b x o n (a x o n h)
theorem SB.of {c : Addr} {H H' : Hp} (s : Same H H') : SB c H H' := fun b o _ h => s b o h
theorem SB.put {c : Addr} {H H' : Hp} {o : HO} (s : SB c H H') : SB c H (upd H' c o) := fun b u n h => by
  rw [upd_ne n]
  exact s b u n h
theorem SB.tup {c a : Addr} {H H' : Hp} {fs : List Int} (s : SB c H H') (h : TupAt H a fs) (hc : a ≠ c) : TupAt H' a fs := s a _ hc h
theorem SB.lst {c a : Addr} {H H' : Hp} {fs : List Int} (s : SB c H H') (h : LstAt H a fs) (hc : a ≠ c) : LstAt H' a fs := s a _ hc h
theorem SB.same {c : Addr} {H H' : Hp} (s : SB c H H') (h : H c = none) : Same H H' := fun b o e => s b o (ne_of_none e h) e
def CupAt (H : Hp) (c : Addr) : Prop := ∃ a b : Int, H c = some (.lst [.int a, .int b]) ∧ 0 ≤ a ∧ 0 ≤ b ∧ b < 4294967296
theorem CupAt.same {H H' : Hp} {c : Addr} (h : CupAt H c) (s : Same H H') : CupAt H' c := by
  obtain ⟨a, b, h1, h2⟩ := h
  exact ⟨a, b, s _ _ h1, h2⟩
theorem CupAt.ne {H : Hp} {c : Addr} (h : CupAt H c) : H c ≠ none := by
  obtain ⟨a, b, h1, _⟩ := h
  rw [h1]
  simp
theorem CupAt.new {H : Hp} {c p : Addr} {o : HO} (h : CupAt H c) (hp : H p = none) : CupAt (upd H p o) c := h.same (same_new (Same.refl H) hp)
theorem valV_kb (l : List Int) (k : Int) : (valV (kb l) (Sum.inl k : Key)).isSome = decide (k ∈ l) := by
  unfold valV
  have h := kb_any l k
  rw [Bool.eq_iff_iff, List.any_eq_true, decide_eq_true_iff] at h
  rw [Option.isSome_map, Bool.eq_iff_iff, List.find?_isSome, decide_eq_true_iff]
  exact h
section
variable {P : Program} {w : World} {K : PySem.W.Frag} {mg : Str → Option Value} {base : Heap}
abbrev s_law_roll : Stmt := top 30
abbrev n_law_roll : List Str := ["_law_cup_here", "_law_many", "_law_deep", "_law_found"]
abbrev p_law_roll : List Str := ["_law_cup_here", "_law_many"]
theorem sc_law_roll : FnScope n_law_roll p_law_roll (defScope s_law_roll) := ⟨rfl, rfl, rfl, by decide +kernel, rfl, by decide +kernel, by decide +kernel⟩
def sp_law_roll : Sp := fun vs H Q _ => ∃ (c : Addr) (m : Int), vs = [.ref c, .int m] ∧ CupAt H c ∧ 0 < m ∧ m < 1000 ∧ ∀ r H', 0 ≤ r → r < m → SB c H H' → CupAt H' c → Q (.int r) H'
theorem ok_law_roll {f : Addr} {fd : FuncData} (F : Fun K "_law_roll" "_law_roll" s_law_roll f fd) (T : Bt mg) : FnOk P w K mg base CX0 1 f fd p_law_roll sp_law_roll := by
  refine F.ok sc_law_roll (fun vs H Q E h => ?_) (fun cdv A outer s H vs Q E hr h => ?_)
  · obtain ⟨c, m, rfl, _⟩ := h
    rfl
  · obtain ⟨c, m, rfl, ⟨a, b, hc, ha, hb, hb2⟩, hm, hm2, k⟩ := h
    refine ⟨_, (pss_cons (ps_if (pt_cmpR op_gt (pe_ix ix_list (pv 0) pe_int (fun _ _ => rfl)) pe_int (nomark _)) (pss_cons (ps_set (i := 3) sc_law_roll.nd rfl (Or.inl rfl) (pe_op op_mod (pe_callTy call_int2 (by rfl) T.int PyProof.Rows.boot_int (pa_cons (pe_ix ix_list (pv 0) pe_int (fun _ _ => rfl)) pa_nil)) (pv 1)))
        (pss_cons (ps_asg (pe_op op_fdiv (pe_ix ix_list (pv 0) pe_int (fun _ _ => rfl)) (pv 1)) (pg_sub (pv 0) pe_int set_list))
        (pss_one (ps_ret (pv 3))))) pss_nil)
    (pss_cons (ps_asg (pe_op op_mod (pe_callTy call_int2 (by rfl) T.int PyProof.Rows.boot_int (pa_cons (pe_op op_add (pe_op op_mul (pe_ix ix_list (pv 0) pe_int (fun _ _ => rfl)) pe_int) pe_int) pa_nil)) pe_int) (pg_sub (pv 0) pe_int set_list))
    (pss_cons (ps_set (i := 2) sc_law_roll.nd rfl (Or.inl rfl) (pe_op op_mod (pe_callTy call_int2 (by rfl) T.int PyProof.Rows.boot_int (pa_cons (pe_op op_mul (pe_ix ix_list (pv 0) pe_int (fun _ _ => rfl)) (pe_op op_add (pe_ix ix_list (pv 0) pe_int (fun _ _ => rfl)) pe_int)) pa_nil)) pe_int))
    (pss_one (ps_ret (pe_op op_mod (pe_callTy call_int2 (by rfl) T.int PyProof.Rows.boot_int (pa_cons (pe_op op_fdiv (pv 2) pe_int) pa_nil)) (pv 1))))))), ?_⟩
    refine ⟨_, rfl, c, _, 0, .int a, rfl, rfl, SqL.of hc, atI_nat (j := 0) rfl, _, _, rfl, rfl, _, rfl, iteD (fun _ => ?_) (fun _ => ?_)⟩
    · refine ⟨_, rfl, c, _, 0, .int a, rfl, rfl, SqL.of hc, atI_nat (j := 0) rfl, .inl ⟨a, rfl, _, rfl, a, m, rfl, rfl, hm, ?_⟩⟩
      refine ⟨_, rfl, c, _, 0, .int a, rfl, rfl, SqL.of hc, atI_nat (j := 0) rfl, _, rfl, a, m, rfl, rfl, ⟨hm, by omega⟩, _, rfl, c, _, 0, 0, rfl, rfl, hc, rfl, ?_⟩
      refine ⟨_, rfl, k (a % m) _ (Int.emod_nonneg _ (by omega)) (Int.emod_lt_of_pos _ hm) (SB.put (SB.refl c H)) ⟨a / m, b, upd_same, Int.ediv_nonneg ha (by omega), hb, hb2⟩⟩
    · refine ⟨_, rfl, c, _, 1, .int b, rfl, rfl, SqL.of hc, atI_nat (j := 1) rfl, _, _, rfl, rfl, .inr ⟨by decide, by decide⟩, _, _, rfl, rfl, .inl ⟨_, rfl, _, _, rfl, rfl, (by show (0 : Int) < 2147483497; decide), _, rfl, c, _, 1, 1, rfl, rfl, hc, rfl, ?_⟩⟩
      have p1 : (0 : Int) ≤ (b * 30949 + 7919) % 2147483497 := Int.emod_nonneg _ (by decide)
      have p2 : (b * 30949 + 7919) % 2147483497 < 2147483497 := Int.emod_lt_of_pos _ (by decide)
      generalize hz : (b * 30949 + 7919) % 2147483497 = z at p1 p2
      have hc2 : ∀ o : HO, (upd H c o) c = some o := fun o => upd_same
      refine ⟨_, rfl, c, [.int a, .int z], 1, .int z, rfl, rfl, SqL.of (by rw [upd_same, ← hz]; rfl), atI_nat (j := 1) rfl, _, rfl, c, [.int a, .int z], 1, .int z, rfl, rfl, SqL.of (by rw [upd_same, ← hz]; rfl), atI_nat (j := 1) rfl, _, _, rfl, rfl, _, _, rfl, rfl, .inl ⟨by omega, by omega⟩, .inl ⟨_, rfl, _, _, rfl, rfl, (by show (0 : Int) < 2147483587; decide), ?_⟩⟩
      refine ⟨_, rfl, _, _, rfl, rfl, ⟨by decide, by decide⟩, .inl ⟨_, rfl, _, rfl, _, m, rfl, rfl, hm, ?_⟩⟩
      exact k _ _ (Int.emod_nonneg _ (by omega)) (Int.emod_lt_of_pos _ hm) (SB.put (SB.refl c H)) ⟨a, z, by rw [upd_same, ← hz]; rfl, ha, p1, by omega⟩
abbrev s_law_cup : Stmt := top 29
abbrev n_law_cup : List Str := ["_law_script", "_law_cell"]
abbrev p_law_cup : List Str := ["_law_script"]
theorem sc_law_cup : FnScope n_law_cup p_law_cup (defScope s_law_cup) := ⟨rfl, rfl, rfl, by decide +kernel, rfl, by decide +kernel, by decide +kernel⟩
def sp_law_cup (K : PySem.W.Frag) : Sp := fun vs H Q _ => ∃ (a : Addr) (ns : List Int), vs = [.ref a] ∧ SqL K H a (ns.map V.int) ∧ ns.length ≤ 63 ∧ ∀ c H', H c = none → Same H H' → CupAt H' c → Q (.ref c) H'
theorem ok_law_cup {f : Addr} {fd : FuncData} (F : Fun K "_law_cup" "_law_cup" s_law_cup f fd) (T : Bt mg) : FnOk P w K mg base CX0 1 f fd p_law_cup (sp_law_cup K) := by
  refine F.ok sc_law_cup (fun vs H Q E h => ?_) (fun cdv A outer s H vs Q E hr h => ?_)
  · obtain ⟨a, ns, rfl, _⟩ := h
    rfl
  · obtain ⟨a, ns, rfl, hS, hl, k⟩ := h
    refine ⟨_, (pss_cons (ps_set (i := 1) sc_law_cup.nd rfl (Or.inl rfl) (pe_callB call_abs1 (by rfl) T.abs PyProof.Rows.boot_abs (pa_cons (pe_ix ix_list (pe_op op_cat (pe_callTy call_list_of (by rfl) T.list PyProof.Rows.boot_list (pa_cons (pv 0) pa_nil)) (pe_lst (pa_cons pe_int pa_nil))) pe_int (fun _ _ => rfl)) pa_nil)))
    (pss_one (ps_ret (pe_lst (pa_cons (pe_ifExp (pt_cmpR op_ge (pv 1) (pe_op op_pow pe_int pe_int) (nomark _)) (pe_op op_fdiv (pv 1) pe_int) pe_int) (pa_cons (pe_op op_add (pe_op op_mod (pe_callTy call_int2 (by rfl) T.int PyProof.Rows.boot_int (pa_cons (pe_op op_add (pe_op op_mul (pv 1) pe_int) pe_int) pa_nil)) pe_int) pe_int) pa_nil)))))), ?_⟩
    refine ⟨_, rfl, a, _, rfl, .inl hS, fun l hl0 => ?_⟩
    refine ⟨sz 1, fun l2 hl2 => ?_⟩
    have n12 : l ≠ l2 := ne_of_none (upd_same (H := H) (a := l) (o := .lst (ns.map V.int))) hl2
    refine ⟨l, l2, ns.map V.int, [.int 0], rfl, rfl, by rw [upd_ne n12, upd_same], upd_same, by rw [List.length_map]; exact szle (by simp; omega), fun p hp => ?_⟩
    obtain ⟨z, hz⟩ : ∃ z, (ns.map V.int ++ [V.int 0])[0]? = some (.int z) := by
      cases ns with
      | nil => exact ⟨0, rfl⟩
      | cons x r => exact ⟨x, rfl⟩
    have s1 : Same H (upd (upd (upd H l (.lst (ns.map V.int))) l2 (.lst [.int 0])) p (.lst (ns.map V.int ++ [.int 0]))) := same_new' (same_new' (same_new (Same.refl H) hl0) hl2) hp
    refine ⟨p, _, 0, .int z, rfl, rfl, SqL.of upd_same, atI_nat (j := 0) hz, z, rfl, ?_⟩
    have q0 : 0 ≤ (if z < 0 then -z else z) := by split <;> omega
    generalize (if z < 0 then -z else z) = y at q0
    refine ⟨_, rfl, _, _, rfl, rfl, ⟨by decide, by decide, by decide⟩, _, _, rfl, rfl, _, rfl, ?_⟩
    have fin : ∀ x : Int, 0 ≤ x → (fun (v : V) (H' : Hp) => H' = upd (upd (upd H l (.lst (ns.map V.int))) l2 (.lst [.int 0])) p (.lst (ns.map V.int ++ [.int 0])) → tCons (tOp (rI0 fun i j => .int (i + j)) (tOp (rI (fun _ j => 0 < j) fun i j => .int (i % j)) (tCB rInt1 (tCons (tOp (rI0 fun i j => .int (i + j)) (tOp (rI CMul fun i j => .int (i * j)) (tVar 1) (tC (.int 239))) (tC (.int 1913))) tNil)) (tC (.int 2077503509))) (tC (.int 127))) tNil [some (.ref a), some (.int y)] H' fun xs H2 => ([v] ++ xs).length ≤ sizeLine ∧ ∀ q, H2 q = none → Q (.ref q) (upd H2 q (.lst ([v] ++ xs)))) (.int x) (upd (upd (upd H l (.lst (ns.map V.int))) l2 (.lst [.int 0])) p (.lst (ns.map V.int ++ [.int 0]))) := by
      intro x hx _
      refine ⟨_, rfl, _, _, rfl, rfl, .inr ⟨by decide, by decide⟩, _, _, rfl, rfl, .inl ⟨_, rfl, _, _, rfl, rfl, (by show (0 : Int) < 2077503509; decide), _, _, rfl, rfl, sz 2, fun q hq => ?_⟩⟩
      have p1 : (0 : Int) ≤ (y * 239 + 1913) % 2077503509 := Int.emod_nonneg _ (by decide)
      have p2 : (y * 239 + 1913) % 2077503509 < 2077503509 := Int.emod_lt_of_pos _ (by decide)
      exact k q _ (s1.free hq) (same_new' s1 hq) ⟨x, _, upd_same, hx, (by show (0 : Int) ≤ (y * 239 + 1913) % 2077503509 + 127; omega), (by show (y * 239 + 1913) % 2077503509 + 127 < 4294967296; omega)⟩
    refine iteD (fun _ => ?_) (fun _ => ?_)
    · refine ⟨_, rfl, _, _, rfl, rfl, ⟨by decide, by decide⟩, ?_⟩
      exact fin (y / 37) (Int.ediv_nonneg q0 (by decide)) rfl
    · exact fin 0 (by decide) rfl
abbrev s_law_some : Stmt := top 31
abbrev n_law_some : List Str := ["_law_cup_here", "_law_things"]
abbrev p_law_some : List Str := ["_law_cup_here", "_law_things"]
theorem sc_law_some : FnScope n_law_some p_law_some (defScope s_law_some) := ⟨rfl, rfl, rfl, by decide +kernel, rfl, by decide +kernel, by decide +kernel⟩
def sp_law_some : Sp := fun vs H Q _ => ∃ (c l : Addr) (xs : List Int), vs = [.ref c, .ref l] ∧ CupAt H c ∧ l ≠ c ∧ LstAt H l xs ∧ 0 < xs.length ∧ xs.length < 100 ∧ ∀ x H', x ∈ xs → SB c H H' → CupAt H' c → Q (.int x) H'
theorem ok_law_some {f : Addr} {fd : FuncData} (F : Fun K "_law_some" "_law_some" s_law_some f fd) (T : Bt mg) (C_law_roll : Df P w K mg base "_law_roll" 1 p_law_roll sp_law_roll) : FnOk P w K mg base CX0 2 f fd p_law_some sp_law_some := by
  refine F.ok sc_law_some (fun vs H Q E h => ?_) (fun cdv A outer s H vs Q E hr h => ?_)
  · obtain ⟨c, l, xs, rfl, _⟩ := h
    rfl
  · obtain ⟨c, l, xs, rfl, hc, hlc, hL, h0, h1, k⟩ := h
    refine ⟨_, (pss_one (ps_ret (pe_ix ix_list (pv 1) (pe_df C_law_roll (hr.mono (by decide)) (by rfl) (pa_cons (pv 0) (pa_cons (pe_callB call_len_seq (by rfl) T.len PySem.boot_len (pa_cons (pv 1) pa_nil)) pa_nil))) (fun _ _ => rfl)))), ?_⟩
    refine ⟨_, rfl, _, rfl, _, rfl, l, _, rfl, .inl hL.sq, c, _, rfl, hc, ?_, ?_, fun r H' r0 r1 sb hc' => ?_⟩
    · rw [List.length_map]; omega
    · rw [List.length_map]; omega
    · rw [List.length_map] at r1
      obtain ⟨j, rfl⟩ := Int.eq_ofNat_of_zero_le r0
      have jl : j < xs.length := by omega
      refine ⟨l, _, (j : Int), .int xs[j], rfl, rfl, (sb.lst hL hlc).sq, atI_nat ?_, k _ H' (List.getElem_mem jl) sb hc'⟩
      rw [List.getElem?_map, List.getElem?_eq_getElem jl]
      rfl
abbrev s_law_steps : Stmt := top 34
abbrev n_law_steps : List Str := ["_law_folds_here", "_law_at"]
abbrev p_law_steps : List Str := ["_law_folds_here"]
theorem sc_law_steps : FnScope n_law_steps p_law_steps (defScope s_law_steps) := ⟨rfl, rfl, rfl, by decide +kernel, rfl, by decide +kernel, by decide +kernel⟩
def sp_law_steps : Sp := fun vs H Q _ => ∃ (a : Addr) (fs : List Int), vs = [.ref a] ∧ TupAt H a fs ∧ fs.length ≤ 12 ∧ ∀ p H', H p = none → Same H H' → LstAt H' p (steps fs) → Q (.ref p) H'
theorem ok_law_steps {f : Addr} {fd : FuncData} (F : Fun K "_law_steps" "_law_steps" s_law_steps f fd) (T : Bt mg) : FnOk P w K mg base CX0 1 f fd p_law_steps sp_law_steps := by
  refine F.ok sc_law_steps (fun vs H Q E h => ?_) (fun cdv A outer s H vs Q E hr h => ?_)
  · obtain ⟨a, fs, rfl, _⟩ := h
    rfl
  · obtain ⟨a, fs, rfl, ht, h12, k⟩ := h
    refine ⟨_, (pss_one (ps_ret (pe_callB cr_sortedI (by rfl) T.sorted PyProof.Rows.boot_sorted (pa_cons (pe_lc (own := [("_law_at", 1)]) (g := (gName 1)) (tt := tYes) (te := (tCB rAbs (tCons (tOp (rI0 fun i j => .int (i - j)) (tOp (rIxT K) (tVar 0) (tOp (rI0 fun i j => .int (i + j)) (tVar 1) (tC (.int 1)))) (tOp (rIxT K) (tVar 0) (tVar 1))) tNil))) rfl sc_law_steps.nd (pi_range1 (by rfl) T.range (pa_cons (pe_op op_sub (pe_callB call_len_seq (by rfl) T.len PySem.boot_len (pa_cons (pv 0) pa_nil)) pe_int) pa_nil)) (blkOk_by (own := [("_law_at", 1)]) (N := n_law_steps) (sc := defScope s_law_steps) (by decide +kernel)) (fun _ _ _ _ _ => (pg_name (i := 1) sc_law_steps.nd rfl (by first | exact Or.inl rfl | exact Or.inr rfl))) (fun _ _ _ _ _ => pts_nil) (fun _ _ _ _ _ => (pe_callB call_abs1 (by rfl) T.abs PyProof.Rows.boot_abs (pa_cons (pe_op op_sub (pe_ix ix_tup (pv 0) (pe_op op_add (pv 1) pe_int) (fun _ _ => rfl)) (pe_ix ix_tup (pv 0) (pv 1) (fun _ _ => rfl))) pa_nil)))) pa_nil)))), ?_⟩
    refine ⟨_, rfl, a, _, rfl, .inr ht.sq, _, _, rfl, rfl, _, rfl, ?_, ?_, fun D hD => lc_range (lo := 0) (fun i H' => Same H H' ∧ LstAt H' D ((diffs fs).take i)) ⟨same_new (Same.refl H) hD, upd_same⟩ ?_ ?_⟩
    · rw [List.length_map]; omega
    · rw [List.length_map]; omega
    · rintro i H' hi ⟨sm, hd⟩
      rw [List.length_map] at hi
      have i1 : i < fs.length := by omega
      have i2 : i + 1 < fs.length := by omega
      have hx : (fs.map V.int)[i]? = some (V.int fs[i]) := by rw [List.getElem?_map, List.getElem?_eq_getElem i1]; rfl
      have hy : (fs.map V.int)[i + 1]? = some (V.int fs[i + 1]) := by rw [List.getElem?_map, List.getElem?_eq_getElem i2]; rfl
      have hy2 : ((fs.drop 1).map V.int)[i]? = some (V.int fs[i + 1]) := by rw [List.getElem?_map, List.getElem?_drop, Nat.add_comm 1 i, List.getElem?_eq_getElem i2]; rfl
      obtain ⟨u, v, e1, e2, e3⟩ := zip_at hx hy2
      have e4 : (0 : Int) + (i : Int) + 1 = ((i + 1 : Nat) : Int) := by omega
      have e5 : (0 : Int) + (i : Int) = ((i : Nat) : Int) := by omega
      refine ⟨rfl, yes_ok ?_⟩
      refine ⟨_, rfl, _, rfl, _, _, rfl, rfl, a, _, _, .int v, rfl, rfl, same_t sm ht.sq, by rw [e4, ← e2]; exact atI_nat hy, _, rfl, _, rfl, a, _, _, .int u, rfl, rfl, same_t sm ht.sq, by rw [e5, ← e1]; exact atI_nat hx, _, _, rfl, rfl, _, rfl, _, hd, ?_, same_new sm hD, ?_⟩
      · have := diffs_length fs
        refine szl ?_
        simp
        omega
      · show upd _ _ _ _ = _
        rw [upd_same, e3, List.map_append, dif_comm]
        rfl
    · rintro H' ⟨sm, hd⟩
      have e : (diffs fs).take (((fs.map V.int).length : Int) - 1).toNat = diffs fs := by
        refine List.take_of_length_le ?_
        rw [diffs_length, List.length_map]
        omega
      rw [e] at hd
      refine ⟨D, diffs fs, rfl, hd.sq, fun ns p hp hs hn => ?_⟩
      have en := isort_unique hp hs
      subst en
      exact k p _ (sm.free hn) (same_new' sm hn) upd_same
end
end Wet

end
section
set_option maxRecDepth 100000
namespace Wet
open PySem L2
section
variable {P : Program} {w : World} {K : PySem.W.Frag} {mg : Str → Option Value} {base : Heap}
abbrev s_law_times : Stmt := top 35
abbrev n_law_times : List Str := ["_law_places", "_law_step", "_law_size", "_law_moved", "_law_place"]
abbrev p_law_times : List Str := ["_law_places", "_law_step", "_law_size"]
theorem sc_law_times : FnScope n_law_times p_law_times (defScope s_law_times) := ⟨rfl, rfl, rfl, by decide +kernel, rfl, by decide +kernel, by decide +kernel⟩
def sp_law_times : Sp := fun vs H Q _ => ∃ (a : Addr) (l : List Int) (s n : Int), vs = [.ref a, .int s, .int n] ∧ LstAt H a l ∧ InRing n l ∧ 0 < n ∧ n ≤ 1000 ∧ ∀ p H', H p = none → Same H H' → LstAt H' p (times n s l) → Q (.ref p) H'
theorem ok_law_times {f : Addr} {fd : FuncData} (F : Fun K "_law_times" "_law_times" s_law_times f fd) (T : Bt mg) : FnOk P w K mg base CX0 1 f fd p_law_times sp_law_times := by
  refine F.ok sc_law_times (fun vs H Q E h => ?_) (fun cdv A outer s H vs Q E hr h => ?_)
  · obtain ⟨a, l, s, n, rfl, _⟩ := h
    rfl
  · obtain ⟨a, l, st, n, rfl, hL, hI, hn, hn2, k⟩ := h
    have hu := hu_of hr
    refine ⟨_, (pss_cons (ps_set (i := 3) sc_law_times.nd rfl (Or.inr rfl) (pe_callTy (call_dictP rfl) (by rfl) T.dict PyProof.Rows.boot_dict (pa_cons (pe_lc (own := [("_law_place", 4)]) (g := (gName 4)) (tt := tYes) (te := (tTup (tCons (tOp (rI (fun _ j => 0 < j) fun i j => .int (i % j)) (tCB rInt1 (tCons (tOp (rI0 fun i j => .int (i + j)) (tVar 4) (tVar 1)) tNil)) (tVar 2)) (tCons (tC (.bl true)) tNil)))) rfl sc_law_times.nd (pi_list (pv 0)) (blkOk_by (own := [("_law_place", 4)]) (N := n_law_times) (sc := defScope s_law_times) (by decide +kernel)) (fun _ _ _ _ _ => (pg_name (i := 4) sc_law_times.nd rfl (by first | exact Or.inl rfl | exact Or.inr rfl))) (fun _ _ _ _ _ => pts_nil) (fun _ _ _ _ _ => (pe_tup (pa_cons (pe_op op_mod (pe_callTy call_int2 (by rfl) T.int PyProof.Rows.boot_int (pa_cons (pe_op op_add (pv 4) (pv 1)) pa_nil)) (pv 2)) (pa_cons pe_bl pa_nil))))) pa_nil)))
    (pss_one (ps_ret (pe_callB cr_sortedI (by rfl) T.sorted PyProof.Rows.boot_sorted (pa_cons (pe_op op_cat (pe_lc (own := [("_law_place", 4)]) (g := (gName 4)) (tt := (tB (tDNotIn (tVar 4) (tVar 3)))) (te := (tVar 4)) rfl sc_law_times.nd (pi_list (pv 0)) (blkOk_by (own := [("_law_place", 4)]) (N := n_law_times) (sc := defScope s_law_times) (by decide +kernel)) (fun _ _ _ _ _ => (pg_name (i := 4) sc_law_times.nd rfl (by first | exact Or.inl rfl | exact Or.inr rfl))) (fun _ _ _ _ _ => pts_one (pt_cmp (pc_dnotin hu (pv 4) (pv 3)))) (fun _ _ _ _ _ => (pv 4))) (pe_lock (pe_lc (own := [("_law_place", 4)]) (g := (gName 4)) (tt := (tTest (tOp (rIn K true) (tVar 4) (tVar 0)))) (te := (tVar 4)) rfl sc_law_times.nd (pi_keys (pv 3)) (blkOk_by (own := [("_law_place", 4)]) (N := n_law_times) (sc := defScope s_law_times) (by decide +kernel)) (fun _ _ _ _ _ => (pg_name (i := 4) sc_law_times.nd rfl (by first | exact Or.inl rfl | exact Or.inr rfl))) (fun _ _ _ _ _ => pts_one (pt_cmpR op_notIn_seq (pv 4) (pv 0) (by first | rfl | with_unfolding_all rfl))) (fun _ _ _ _ _ => (pv 4))))) pa_nil))))), ?_⟩
    have ll : l.length ≤ 1000 := by
      obtain ⟨m, rfl⟩ := Int.eq_ofNat_of_zero_le (Int.le_of_lt hn)
      have := ring_length hI
      omega
    have ml : (moved n st l).length ≤ l.length := by
      have := addU_length (l.map fun p => (p + st) % n) []
      unfold moved
      simpa using this
    -- _law_moved
    refine ⟨_, rfl, a, rfl, ⟨_, hL.sq⟩, fun D hD => lc_list (K := K) (a := a) (xs := l.map V.int)
      (fun j H2 => Same H H2 ∧ ∃ ps : List Addr, H2 D = some (.lst (ps.map V.ref)) ∧ ps.length = j ∧ Paired (fun (p : Addr) (kv : Key × V) => H2 p = some (.tup [kV kv.1, kv.2])) ps (kb ((l.take j).map fun p => (p + st) % n)))
      ⟨same_new (Same.refl H) hD, [], upd_same, rfl, .nil⟩ (fun j H2 _ g => g.1.seq hL.sq) ?_ ?_⟩
    · rintro j y H2 hy ⟨s2, ps, hps, hpl, hpp⟩
      obtain ⟨o, ho, rfl⟩ : ∃ o, l[j]? = some o ∧ V.int o = y := by simpa using hy
      have jl := (List.getElem?_eq_some_iff.mp ho).1
      refine ⟨rfl, yes_ok ?_⟩
      refine ⟨_, rfl, _, rfl, _, _, rfl, rfl, .inl ⟨_, rfl, _, rfl, _, n, rfl, rfl, hn, sz 2, fun t htn => ?_⟩⟩
      have nDt : D ≠ t := ne_of_none hps htn
      refine ⟨_, by rw [upd_ne nDt]; exact hps, by rw [List.length_map]; exact szl (by omega), same_new (same_new' s2 htn) hD, ps ++ [t], ?_, by simp [hpl], ?_⟩
      · rw [upd_same, List.map_append]
        rfl
      · rw [List.take_add_one, ho]
        unfold kb
        rw [List.map_append, List.map_append]
        refine Paired.snoc (Paired.mapP hpp fun p kv hkv => ?_) ?_
        · have n1 : p ≠ D := ne_of hkv hps (by intro z; cases z)
          rw [upd_ne n1, upd_ne (ne_of_none hkv htn)]
          exact hkv
        · rw [upd_ne nDt.symm, upd_same]
          rfl
    · rintro H2 ⟨s2, ps, hps, hpl, hpp⟩
      rw [List.length_map, List.take_length] at hpp
      refine ⟨D, ps, _, rfl, SqL.of hps, Paired.mapP hpp fun p kv hkv => SqT.of hkv, fun d hd => ?_⟩
      have em : mergeK [] (kb (l.map fun p => (p + st) % n)) = kb (moved n st l) := mergeK_kb (l.map fun p => (p + st) % n) []
      rw [em]
      have s3 : Same H (upd H2 d (.dK (kb (moved n st l)))) := same_new' s2 hd
      have hdH : H d = none := s2.free hd
      have hd3 : (upd H2 d (.dK (kb (moved n st l)))) d = some (.dK (kb (moved n st l))) := upd_same
      generalize (upd H2 d (.dK (kb (moved n st l)))) = H3 at s3 hd3
      -- the first list
      refine ⟨_, rfl, a, rfl, ⟨_, s3.seq hL.sq⟩, fun D1 hD1 => lc_list (K := K) (a := a) (xs := l.map V.int) (fun j H4 => Same H3 H4 ∧ LstAt H4 D1 ((l.take j).filter fun p => !decide (p ∈ moved n st l))) ⟨same_new (Same.refl H3) hD1, upd_same⟩ (fun j H4 _ g => (s3.trans g.1).seq hL.sq) ?_ ?_⟩
      · rintro j y H4 hy ⟨s4, hL1⟩
        obtain ⟨o, ho, rfl⟩ : ∃ o, l[j]? = some o ∧ V.int o = y := by simpa using hy
        have jl := (List.getElem?_eq_some_iff.mp ho).1
        refine ⟨rfl, _, rfl, _, rfl, d, _, rfl, DGet.k (k := Sum.inl o) (s4 _ _ hd3), _, rfl, ?_⟩
        rw [valV_kb]
        refine iteN (fun c => ?_) (fun c => ?_)
        · refine ⟨_, rfl, _, hL1, ?_, same_new s4 hD1, ?_⟩
          · refine szl ?_
            have := List.length_filter_le (fun p => !decide (p ∈ moved n st l)) (l.take j)
            rw [List.length_take] at this
            rw [List.length_map]
            omega
          · show upd _ _ _ _ = _
            rw [upd_same, filter_take ho, if_pos (by simpa using c), List.map_append]
            rfl
        · refine ⟨s4, ?_⟩
          rw [filter_take ho, if_neg (by simpa using c), List.append_nil]
          exact hL1
      · rintro H4 ⟨s4, hL1⟩
        rw [List.length_map, List.take_length] at hL1
        -- the second list, while the dict is walked
        refine ⟨d, _, s4 _ _ hd3, True.intro, fun od => ?_⟩
        have hdD1 : d ≠ D1 := ne_of (s4 _ _ hd3) hL1 (by intro z; cases z)
        have sF : Same H (upd H4 d (.frz od (.dK (kb (moved n st l))))) := same_new (s3.trans s4) hdH
        have hF1 : LstAt (upd H4 d (.frz od (.dK (kb (moved n st l))))) D1 (l.filter fun p => !decide (p ∈ moved n st l)) := by
          show upd _ _ _ _ = _
          rw [upd_ne hdD1.symm]
          exact hL1
        have hFd : (upd H4 d (.frz od (.dK (kb (moved n st l))))) d = some (.frz od (.dK (kb (moved n st l)))) := upd_same
        generalize (upd H4 d (.frz od (.dK (kb (moved n st l))))) = H5 at sF hF1 hFd
        refine ⟨_, rfl, d, od, rfl, .inl ⟨_, hFd, fun D2 hD2 => lc_it walk_keys (fun j H6 => Same H5 H6 ∧ LstAt H6 D2 (((moved n st l).take j).filter fun p => !decide (p ∈ l))) ⟨same_new (Same.refl H5) hD2, upd_same⟩ (fun j H6 _ g => g.1 _ _ hFd) ?_ ?_⟩⟩
        · rintro j y H6 H7 hj ⟨s6, hL2⟩ ⟨rfl, kk, vv, hk, rfl⟩
          obtain ⟨o, ho, e1⟩ : ∃ o, (moved n st l)[j]? = some o ∧ (Sum.inl o, V.bl true) = (kk, vv) := by
            unfold kb at hk
            rw [List.getElem?_map, Option.map_eq_some_iff] at hk
            exact hk
          obtain ⟨rfl, rfl⟩ := Prod.mk.inj e1
          have jl := (List.getElem?_eq_some_iff.mp ho).1
          refine ⟨rfl, _, rfl, _, rfl, notInL_ok ((sF.trans s6).seq hL.sq) ⟨_, rfl, iteN (fun c => ?_) (fun c => ?_)⟩⟩
          · refine ⟨_, rfl, _, hL2, ?_, same_new s6 hD2, ?_⟩
            · refine szl ?_
              have := List.length_filter_le (fun p => !decide (p ∈ l)) ((moved n st l).take j)
              rw [List.length_take] at this
              rw [List.length_map]
              omega
            · show upd _ _ _ _ = _
              rw [upd_same, filter_take ho, if_pos (by simpa using c), List.map_append]
              rfl
          · refine ⟨s6, ?_⟩
            rw [filter_take ho, if_neg (by simpa using c), List.append_nil]
            exact hL2
        · rintro H6 ⟨s6, hL2⟩
          have e2 : (kb (moved n st l)).length = (moved n st l).length := by unfold kb; rw [List.length_map]
          rw [e2, List.take_length] at hL2
          refine ⟨s6 _ _ hFd, ?_⟩
          have hd6 := s6 _ _ hFd
          have nD2 : D2 ≠ d := ne_of hL2 hd6 (by intro z; cases z)
          have s7 : Same H (upd H6 d (.dK (kb (moved n st l)))) := same_new (sF.trans s6) hdH
          have g1 : LstAt (upd H6 d (.dK (kb (moved n st l)))) D1 (l.filter fun p => !decide (p ∈ moved n st l)) := by
            show upd _ _ _ _ = _
            rw [upd_ne hdD1.symm]
            exact s6 _ _ hF1
          have g2 : LstAt (upd H6 d (.dK (kb (moved n st l)))) D2 ((moved n st l).filter fun p => !decide (p ∈ l)) := by
            show upd _ _ _ _ = _
            rw [upd_ne nD2]
            exact hL2
          have f1 := List.length_filter_le (fun p => !decide (p ∈ moved n st l)) l
          have f2 := List.length_filter_le (fun p => !decide (p ∈ l)) (moved n st l)
          refine cat_ok g1 g2 (by omega) fun p H8 hp _ s8 hL8 => ?_
          refine ⟨p, _, rfl, hL8.sq, fun ns q hq hs hn => ?_⟩
          have en := isort_unique hq hs
          subst en
          have s9 := s7.trans s8
          exact k q _ (s9.free hn) (same_new' s9 hn) upd_same
abbrev s_law_washed_by_steps : Stmt := top 36
abbrev n_law_washed_by_steps : List Str := ["_law_size", "_law_folds_here", "_law_places", "_law_step", "_law_spot"]
abbrev p_law_washed_by_steps : List Str := ["_law_size", "_law_folds_here"]
theorem sc_law_washed_by_steps : FnScope n_law_washed_by_steps p_law_washed_by_steps (defScope s_law_washed_by_steps) := ⟨rfl, rfl, rfl, by decide +kernel, rfl, by decide +kernel, by decide +kernel⟩
def sp_law_washed_by_steps : Sp := fun vs H Q _ => ∃ (n : Int) (a : Addr) (fs : List Int), vs = [.int n, .ref a] ∧ TupAt H a fs ∧ fs.length ≤ 12 ∧ (∀ s ∈ steps fs, 0 < s) ∧ 0 < n ∧ n < 90 ∧ ∀ H', Same H H' → Q (.bl (decide (n ∈ toldA fs))) H'
theorem ok_law_washed_by_steps {f : Addr} {fd : FuncData} (F : Fun K "_law_washed_by_steps" "_law_washed_by_steps" s_law_washed_by_steps f fd) (T : Bt mg) (C_law_times : Df P w K mg base "_law_times" 1 p_law_times sp_law_times) (C_law_steps : Df P w K mg base "_law_steps" 1 p_law_steps sp_law_steps) :
    FnOk P w K mg base CX0 2 f fd p_law_washed_by_steps sp_law_washed_by_steps := by
  refine F.ok sc_law_washed_by_steps (fun vs H Q E h => ?_) (fun cdv A outer s H vs Q E hr h => ?_)
  · obtain ⟨n, a, fs, rfl, _⟩ := h
    rfl
  · obtain ⟨n, a, fs, rfl, ht, h12, hp, hn, hn2, k⟩ := h
    refine ⟨_, (pss_cons (ps_if (pt_cmpR (op_eqD hr.units) (pv 1) (pe_tup pa_nil) (nomark _)) (pss_one (ps_ret pe_bl)) pss_nil)
    (pss_cons (ps_set (i := 2) sc_law_washed_by_steps.nd rfl (Or.inl rfl) (pe_lst (pa_cons pe_int pa_nil)))
    (pss_cons (ps_for PassesOwn.never rfl (pi_list (pe_df C_law_steps (hr.mono (by decide)) (by rfl) (pa_cons (pv 1) pa_nil))) (pg_name (i := 3) sc_law_washed_by_steps.nd rfl (by first | exact Or.inl rfl | exact Or.inr rfl))
        (pss_one (ps_set (i := 2) sc_law_washed_by_steps.nd rfl (Or.inl rfl) (pe_df C_law_times (hr.mono (by decide)) (by rfl) (pa_cons (pv 2) (pa_cons (pv 3) (pa_cons (pv 0) pa_nil)))))))
    (pss_cons (ps_for PassesOwn.never rfl (pi_range1 (by rfl) T.range (pa_cons (pe_ifExp (pt_cmpR (op_neD hr.units) (pv 2) (pe_lst pa_nil) (nomark _)) (pv 0) pe_int) pa_nil)) (pg_name (i := 4) sc_law_washed_by_steps.nd rfl (by first | exact Or.inl rfl | exact Or.inr rfl))
        (pss_one (ps_if (pt_cmpR (op_neD hr.units) (pe_df C_law_times (hr.mono (by decide)) (by rfl) (pa_cons (pv 2) (pa_cons (pe_op op_sub (pe_op op_mul pe_int (pv 4)) (pe_ix ix_tup (pv 1) pe_int (fun _ _ => rfl))) (pa_cons (pv 0) pa_nil)))) (pe_lst pa_nil) (nomark _)) (pss_one (ps_ret pe_bl)) pss_nil)))
    (pss_one (ps_ret pe_bl)))))), ?_⟩
    refine ⟨_, rfl, sz 0, fun p0 hp0 => ?_⟩
    have s0 : Same H (upd H p0 (.tup [])) := same_new (Same.refl H) hp0
    refine eqT_ok (gs := []) (same_t s0 ht.sq) (SqT.of upd_same) ⟨_, rfl, iteD (fun c => ?_) (fun c => ?_)⟩
    · have := k _ s0
      unfold toldA at this
      rw [if_pos c] at this
      exact this
    · have hw := fun (m : Nat) (h : m < 90) (h0 : 0 < m) => washed_told c hp h h0
      obtain ⟨h0, r, rfl⟩ := List.exists_cons_of_ne_nil c
      refine ⟨sz 1, fun l0 hl0 => ?_⟩
      have s1 : Same H (upd (upd H p0 (.tup [])) l0 (.lst [.int 0])) := same_new' s0 hl0
      refine ⟨_, rfl, a, h0 :: r, rfl, ht.same s1, h12, fun q H1 hq s2 hq1 => ⟨q, rfl, ⟨_, hq1.sq⟩, for_list (K := K) (a := q) (xs := (steps (h0 :: r)).map V.int) (fun i σ H' => ∃ (p : Addr) (v : Option V), σ = [some (.int n), some (.ref a), some (.ref p), v, none] ∧ Same H H' ∧ LstAt H' q (steps (h0 :: r)) ∧ LstAt H' p (placesTo n ((steps (h0 :: r)).take i)))
        ⟨l0, none, rfl, s1.trans s2, hq1, s2 _ _ upd_same⟩ (fun i σ H' _ ⟨_, _, _, _, g, _⟩ => g.sq) ?_ ?_⟩⟩
      · rintro i x σ H' hx ⟨p, v, rfl, sm, hq2, hL⟩
        obtain ⟨z, hz, rfl⟩ : ∃ z, (steps (h0 :: r))[i]? = some z ∧ V.int z = x := by simpa using hx
        refine ⟨_, rfl, _, rfl, _, rfl, p, _, z, n, rfl, hL, places_ring hn _, hn, by omega, fun p2 H2 hp2 s3 hL2 => ?_⟩
        refine ⟨p2, some (.int z), rfl, sm.trans s3, hq2.same s3, ?_⟩
        have e : placesTo n ((steps (h0 :: r)).take (i + 1)) = times n z (placesTo n ((steps (h0 :: r)).take i)) := by
          unfold placesTo
          rw [List.take_add_one, hz, List.foldl_append]
          rfl
        rw [e]
        exact hL2
      · rintro σ H' ⟨p, v, rfl, sm, hq2, hL⟩
        rw [List.length_map, List.take_length] at hL
        obtain ⟨m, rfl⟩ := Int.eq_ofNat_of_zero_le (Int.le_of_lt hn)
        have hwm := hw m (by omega) (by omega)
        have hR := places_ring hn (steps (h0 :: r))
        refine ⟨_, rfl, sz 0, fun e he => ?_⟩
        have sE : Same H' (upd H' e (.lst [])) := same_new (Same.refl H') he
        refine neL_ok (gs := []) (sE.seq hL.sq) (SqL.of upd_same) ⟨_, rfl, iteN (fun c2 => ?_) (fun c2 => ?_)⟩
        · refine ⟨_, rfl, _, rfl, by omega, by omega, for_range (lo := 0) (n := (m : Int).toNat) (fun i σ H2 => ∃ v4 : Option V, σ = [some (.int m), some (.ref a), some (.ref p), v, v4] ∧ Same H' H2 ∧ ∀ spot : Nat, spot < i → times m (2 * (spot : Int) - h0) (placesTo m (steps (h0 :: r))) = [])
            ⟨none, rfl, sE, fun _ h => absurd h (Nat.not_lt_zero _)⟩ ?_ ?_⟩
          · rintro i σ H2 hi ⟨v4, rfl, s4, hall⟩
            have e0 : (0 : Int) + (i : Int) = (i : Int) := by omega
            refine ⟨_, rfl, _, rfl, _, _, rfl, rfl, .inl ⟨by decide, by decide⟩, _, rfl, a, _, 0, .int h0, rfl, rfl, same_t (sm.trans s4) ht.sq, atI_nat (j := 0) rfl, _, _, rfl, rfl, _, rfl, p, _, _, (m : Int), rfl, hL.same s4, hR, hn, by omega, fun p2 H3 hp2 s5 hL3 => ?_⟩
            rw [e0] at hL3
            refine ⟨sz 0, fun e2 he2 => ?_⟩
            have s6 : Same H3 (upd H3 e2 (.lst [])) := same_new (Same.refl H3) he2
            refine neL_ok (gs := []) (s6.seq hL3.sq) (SqL.of upd_same) ⟨_, rfl, iteN (fun c3 => ?_) (fun c3 => ?_)⟩
            · have := k _ (((sm.trans s4).trans s5).trans s6)
              rw [decide_eq_false (fun hin => c3 (hwm.mpr hin i (by omega)))] at this
              exact this
            · refine ⟨some (.int (0 + (i : Int))), rfl, (s4.trans s5).trans s6, fun spot hs => ?_⟩
              rcases Nat.lt_or_ge spot i with l | l
              · exact hall spot l
              · have e3 : spot = i := by omega
                subst e3
                exact c3
          · rintro σ H2 ⟨v4, rfl, s4, hall⟩
            have := k _ (sm.trans s4)
            rw [decide_eq_true (hwm.mp fun spot hs => hall spot (by omega))] at this
            exact this
        · refine ⟨0, rfl, by decide, by decide, for_range (lo := 0) (n := 0) (fun i σ H2 => H2 = upd H' e (.lst [])) rfl (fun i σ H2 hi _ => absurd hi (Nat.not_lt_zero _)) ?_⟩
          rintro σ H2 rfl
          have := k _ (sm.trans sE)
          rw [decide_eq_true (hwm.mp fun spot hs => by rw [c2]; rfl)] at this
          exact this
end
end Wet

end
section
set_option maxRecDepth 100000
namespace Wet
open PySem L2
/-! ### drawn rows -/
def S0 : List Int := [0, 1, 2, 3, 4, 5, 6, 7, 8, 9, 10, 12, 15, 18, 20, 24, 30, 40]
theorem diffs_snoc : ∀ (pre : List Int) (x y : Int), diffs (pre ++ [x] ++ [y]) = diffs (pre ++ [x]) ++ [dif x y]
  | [], x, y => rfl
  | [a], x, y => rfl
  | a :: b :: r, x, y => by
    have ih := diffs_snoc (b :: r) x y
    show dif a b :: diffs (b :: r ++ [x] ++ [y]) = dif a b :: diffs (b :: r ++ [x]) ++ [dif x y]
    rw [ih]
    rfl
/-- a row as it is drawn: pre and a last fold -/
structure Grown (fs pre : List Int) (x : Int) : Prop where
  eq : fs = pre ++ [x]
  st : ∀ d ∈ diffs fs, d ∈ S0
  bd : ∀ v ∈ fs, -(10 + 40 * (fs.length : Int)) ≤ v ∧ v ≤ 10 + 40 * fs.length
structure Drawn (fs : List Int) : Prop where
  len : fs.length ≤ 7
  st : ∀ d ∈ diffs fs, d ∈ S0
  bd : ∀ v ∈ fs, -1000 ≤ v ∧ v ≤ 1000
theorem S0_le {d : Int} (h : d ∈ S0) : 0 ≤ d ∧ d ≤ 40 := by
  have key : ∀ d ∈ S0, 0 ≤ d ∧ d ≤ 40 := by decide
  exact key d h
theorem Grown.one {x : Int} (h : -7 ≤ x ∧ x ≤ 7) : Grown [x] [] x := ⟨rfl, by simp [diffs], by
  intro v hv
  rw [List.mem_singleton.mp hv]
  simp
  omega⟩
theorem dif_add (x t : Int) : dif x (x + t) = if t < 0 then -t else t := by unfold dif; split <;> split <;> omega
theorem Grown.snoc {fs pre : List Int} {x : Int} (g : Grown fs pre x) {t : Int} (ht : (if t < 0 then -t else t) ∈ S0) : Grown (fs ++ [x + t]) fs (x + t) := by
  have b := S0_le ht
  refine ⟨rfl, ?_, ?_⟩
  · rw [g.eq, diffs_snoc, ← g.eq, dif_add]
    intro d hd
    rcases List.mem_append.mp hd with h | h
    · exact g.st d h
    · rw [List.mem_singleton.mp h]
      exact ht
  · intro v hv
    rw [List.length_append, List.length_singleton]
    have hx := g.bd x (by rw [g.eq]; simp)
    rcases List.mem_append.mp hv with h | h
    · have := g.bd v h
      omega
    · rw [List.mem_singleton.mp h]
      split at b <;> omega
theorem Grown.drawn {fs pre : List Int} {x : Int} (g : Grown fs pre x) (h : fs.length ≤ 7) : Drawn fs := ⟨h, g.st, fun v hv => by have := g.bd v hv; omega⟩
theorem Grown.ne {fs pre : List Int} {x : Int} (g : Grown fs pre x) : fs ≠ [] := by rw [g.eq]; simp
theorem Drawn.nil : Drawn [] := ⟨by decide, by simp [diffs], by simp⟩
section
variable {K : PySem.W.Frag} {H : Hp} {a b : Addr} {fs gs : List Int} {Q : VK}
theorem catT_ok (ha : SqT K H a (fs.map V.int)) (hb : SqT K H b (gs.map V.int)) (h1 : fs ≠ []) (h2 : gs ≠ []) (hl : fs.length + gs.length ≤ 1000) (k : ∀ p H', H p = none → Same H H' → TupAt H' p (fs ++ gs) → Q (.ref p) H') : rCatA K (.ref a) (.ref b) H Q := by
  refine ⟨a, b, _, _, rfl, rfl, ha, hb, by rw [List.length_map, List.length_map]; exact szle (by omega), fun h => absurd (List.map_eq_nil_iff.mp h) h1, fun _ h => absurd (List.map_eq_nil_iff.mp h) h2, fun _ _ p hp => ?_⟩
  rw [← List.map_append]
  exact k p _ hp (same_new (Same.refl H) hp) upd_same
theorem last_at {pre : List Int} {x : Int} (e : fs = pre ++ [x]) : atI (fs.map V.int) (-1) = some (V.int x) := by
  rw [e, List.map_append]
  exact atI_last _ _
end
section
variable {P : Program} {w : World} {K : PySem.W.Frag} {mg : Str → Option Value} {base : Heap}
abbrev s_law_folds : Stmt := top 32
abbrev n_law_folds : List Str := ["_law_cup_here", "_law_most", "_law_many", "_law_found", "_law_step", "_law_way", "_law_turn"]
abbrev p_law_folds : List Str := ["_law_cup_here", "_law_most"]
theorem sc_law_folds : FnScope n_law_folds p_law_folds (defScope s_law_folds) := ⟨rfl, rfl, rfl, by decide +kernel, rfl, by decide +kernel, by decide +kernel⟩
def S1 : List Int := [1, 2, 3, 4, 6, 7, 10]
theorem S1_turn {s t : Int} (h : s ∈ S1) (ht : t ∈ [s, -s, s, 0] ∨ t ∈ [s, -s, s, -s]) : (if t < 0 then -t else t) ∈ S0 := by
  have key : ∀ s ∈ S1, ∀ t ∈ [s, -s, s, 0] ++ [s, -s, s, -s], (if t < 0 then -t else t) ∈ S0 := by decide
  exact key s h t (List.mem_append.mpr ht)
def sp_law_folds : Sp := fun vs H Q _ => ∃ (c : Addr), vs = [.ref c, .int 5] ∧ CupAt H c ∧ ∀ p fs H', SB c H H' → CupAt H' c → TupAt H' p fs → Drawn fs → Q (.ref p) H'
theorem ok_law_folds {f : Addr} {fd : FuncData} (F : Fun K "_law_folds" "_law_folds" s_law_folds f fd) (T : Bt mg) (C_law_roll : Df P w K mg base "_law_roll" 1 p_law_roll sp_law_roll) (C_law_some : Df P w K mg base "_law_some" 2 p_law_some sp_law_some) :
    FnOk P w K mg base CX0 3 f fd p_law_folds sp_law_folds := by
  refine F.ok sc_law_folds (fun vs H Q E h => ?_) (fun cdv A outer s H vs Q E hr h => ?_)
  · obtain ⟨c, rfl, _⟩ := h
    rfl
  · obtain ⟨c, rfl, hc, k⟩ := h
    refine ⟨_, (pss_cons (ps_set (i := 2) sc_law_folds.nd rfl (Or.inl rfl) (pe_df C_law_roll (hr.mono (by decide)) (by rfl) (pa_cons (pv 0) (pa_cons (pe_op op_add (pv 1) pe_int) pa_nil))))
    (pss_cons (ps_par (i := 3) (j := 4) rfl sc_law_folds.nd rfl rfl (by decide) rfl rfl (pa_cons (pe_tup (pa_cons (pe_op op_sub (pe_df C_law_roll (hr.mono (by decide)) (by rfl) (pa_cons (pv 0) (pa_cons pe_int pa_nil))) pe_int) pa_nil)) (pa_cons (pe_op op_add pe_int (pe_df C_law_roll (hr.mono (by decide)) (by rfl) (pa_cons (pv 0) (pa_cons pe_int pa_nil)))) pa_nil)) (by rfl))
    (pss_cons (ps_while PassesOwn.never (pt_cmpR op_lt (pe_callB call_len_seq (by rfl) T.len PySem.boot_len (pa_cons (pv 3) pa_nil)) (pv 2) (nomark _)) (pss_cons (ps_set (i := 5) sc_law_folds.nd rfl (Or.inl rfl) (pe_df C_law_roll (hr.mono (by decide)) (by rfl) (pa_cons (pv 0) (pa_cons pe_int pa_nil))))
        (Evl.pss_cut (ps_if (pt_cmpR op_gt (pv 5) pe_int (nomark _)) (pss_one (ps_set (i := 4) sc_law_folds.nd rfl (Or.inl rfl) (pe_df C_law_some (hr.mono (by decide)) (by rfl) (pa_cons (pv 0) (pa_cons (pe_lst (pa_cons pe_int (pa_cons pe_int (pa_cons pe_int (pa_cons pe_int (pa_cons pe_int (pa_cons pe_int (pa_cons pe_int pa_nil)))))))) pa_nil))))) pss_nil)
        (Evl.pss_cut (ps_set (i := 6) sc_law_folds.nd rfl (Or.inl rfl) (pe_df C_law_some (hr.mono (by decide)) (by rfl) (pa_cons (pv 0) (pa_cons (pe_lst (pa_cons (pv 4) (pa_cons (pe_un un_neg (pv 4)) (pa_cons (pv 4) (pa_cons (pe_ifExp (pt_cmpR op_eq (pv 5) pe_int (nomark _)) pe_int (pe_un un_neg (pv 4))) pa_nil))))) pa_nil))))
        (pss_one (ps_set (i := 3) sc_law_folds.nd rfl (Or.inl rfl) (pe_op op_catA (pv 3) (pe_tup (pa_cons (pe_op op_add (pe_ix ix_tup (pv 3) (pe_un un_neg pe_int) (fun _ _ => rfl)) (pv 6)) pa_nil)))))))))
    (pss_one (ps_ret (pe_slice sl_tupA (pv 3) po_none (po_some (pv 2)))))))), ?_⟩
    refine ⟨_, rfl, _, rfl, _, _, rfl, rfl, c, _, rfl, hc, by decide, by decide, fun many H1 m0 m1 sb1 hc1 => ?_⟩
    refine ⟨_, rfl, c, _, rfl, hc1, by decide, by decide, fun r H2 r0 r1 sb2 hc2 => ⟨_, _, rfl, rfl, sz 1, fun p0 hp0 => ?_⟩⟩
    refine ⟨_, rfl, c, _, rfl, hc2.new hp0, by decide, by decide, fun r2 H3 q0 q1 sb3 hc3 => ⟨_, _, rfl, rfl, _, _, rfl, ?_⟩⟩
    have np0 : p0 ≠ c := fun e => hc2.ne (e ▸ hp0)
    have sbA : SB c H H3 := ((sb1.trans sb2).trans (SB.of (same_new (Same.refl H2) hp0))).trans sb3
    have tA : TupAt H3 p0 [r - 7] := sb3 _ _ np0 upd_same
    have st1 : 1 + r2 ∈ S1 := by
      have : 1 + r2 = 1 ∨ 1 + r2 = 2 ∨ 1 + r2 = 3 ∨ 1 + r2 = 4 := by omega
      rcases this with e | e | e | e <;> rw [e] <;> decide
    have m5 : many < 6 := m1
    refine ⟨fun m σ H' => ∃ (p : Addr) (fs pre : List Int) (x step : Int) (v5 v6 : Option V), σ = [some (.ref c), some (.int 5), some (.int many), some (.ref p), some (.int step), v5, v6] ∧ SB c H H' ∧ CupAt H' c ∧ p ≠ c ∧ TupAt H' p fs ∧ Grown fs pre x ∧ step ∈ S1 ∧ (fs.length ≤ 1 ∨ (fs.length : Int) ≤ many) ∧ m = 10 - fs.length,
      ⟨9, p0, [r - 7], [], r - 7, 1 + r2, none, none, rfl, sbA, hc3, np0, tA, Grown.one ⟨by omega, by omega⟩, st1, Or.inl (by simp), rfl⟩, ?_⟩
    rintro m σ H' ⟨p, fs, pre, x, step, v5, v6, rfl, sb, hc4, npc, ht, g, hst, hlen, hm⟩
    refine ⟨_, rfl, p, _, rfl, .inr ht.sq, _, rfl, _, _, rfl, rfl, _, rfl, iteD (fun h => ?_) (fun h => ?_)⟩
    · rw [List.length_map] at h
      refine ⟨fun σ' H' => ∃ m', m' < m ∧ _, fun _ _ z => z, ?_⟩
      -- way
      refine ⟨_, rfl, c, _, rfl, hc4, by decide, by decide, fun way H5 w0 w1 sb5 hc5 => ?_⟩
      -- if way > 3: step
      refine ⟨fun σ' H6 => ∃ step2, σ' = [some (.ref c), some (.int 5), some (.int many), some (.ref p), some (.int step2), some (.int way), v6] ∧ step2 ∈ S1 ∧ SB c H' H6 ∧ CupAt H6 c, ?_, ?_⟩
      · refine ⟨_, rfl, _, _, rfl, rfl, _, rfl, iteD (fun _ => ?_) (fun _ => ?_)⟩
        · refine ⟨_, rfl, sz 7, fun l hl => ?_⟩
          exact ⟨c, l, [1, 2, 3, 4, 6, 7, 10], rfl, hc5.new hl, fun e => hc5.ne (e ▸ hl), upd_same, by decide, by decide, fun y H6 hy sb6 hc6 => ⟨y, rfl, hy, (sb5.trans (SB.of (same_new (Same.refl H5) hl))).trans sb6, hc6⟩⟩
        · exact ⟨step, rfl, hst, sb5, hc5⟩
      · rintro σ' H6 ⟨step2, rfl, hst2, sb6, hc6⟩
        -- turn
        refine ⟨fun σ' H7 => ∃ t, σ' = [some (.ref c), some (.int 5), some (.int many), some (.ref p), some (.int step2), some (.int way), some (.int t)] ∧ (if t < 0 then -t else t) ∈ S0 ∧ SB c H' H7 ∧ CupAt H7 c, ?_, ?_⟩
        · refine ⟨_, rfl, _, rfl, _, rfl, _, rfl, _, rfl, _, rfl, rfl, _, rfl, iteD (fun _ => ?_) (fun _ => ?_)⟩
          · refine ⟨sz 4, fun l hl => ?_⟩
            exact ⟨c, l, [step2, -step2, step2, 0], rfl, hc6.new hl, fun e => hc6.ne (e ▸ hl), upd_same, by simp, by simp, fun y H7 hy sb7 hc7 => ⟨y, rfl, S1_turn hst2 (Or.inl hy), (sb6.trans (SB.of (same_new (Same.refl H6) hl))).trans sb7, hc7⟩⟩
          · refine ⟨_, rfl, _, rfl, sz 4, fun l hl => ?_⟩
            exact ⟨c, l, [step2, -step2, step2, -step2], rfl, hc6.new hl, fun e => hc6.ne (e ▸ hl), upd_same, by simp, by simp, fun y H7 hy sb7 hc7 => ⟨y, rfl, S1_turn hst2 (Or.inr hy), (sb6.trans (SB.of (same_new (Same.refl H6) hl))).trans sb7, hc7⟩⟩
        · rintro σ' H7 ⟨t, rfl, htt, sb7, hc7⟩
          have ht7 := sb7.tup ht npc
          refine ⟨_, rfl, _, rfl, 1, rfl, p, _, _, _, rfl, rfl, ht7.sq, last_at g.eq, _, rfl, _, _, rfl, rfl, sz 1, fun q hq => ?_⟩
          have s8 : Same H7 (upd H7 q (.tup [.int (x + t)])) := same_new (Same.refl H7) hq
          refine catT_ok (gs := [x + t]) (ht7.same s8).sq (SqT.of upd_same) g.ne (by simp) (by simp; omega) fun p2 H8 hp2 s9 ht8 => ?_
          have sC := s8.trans s9
          have hc8 := hc7.same sC
          refine ⟨10 - (fs.length + 1), by omega, p2, fs ++ [x + t], fs, x + t, step2, some (.int way), some (.int t), rfl, (sb.trans sb7).trans (SB.of sC), hc8, fun e => ?_, ht8, g.snoc htt, hst2, Or.inr ?_, by simp⟩
          · exact (hc7.same s8).ne (e ▸ hp2)
          · rw [List.length_append, List.length_singleton]
            omega
    · rw [List.length_map] at h
      refine ⟨_, rfl, _, rfl, many, rfl, ?_⟩
      refine ⟨p, _, rfl, ht.sq, fun hw => ?_, fun hw q hq => ?_⟩
      · exact k p fs H' sb hc4 ht (g.drawn (by omega))
      · obtain ⟨j, rfl⟩ := Int.eq_ofNat_of_zero_le m0
        have e1 : HT.sIx (fs.map V.int).length (fs.map V.int).length (some (j : Int)) = min j fs.length := by rw [HT.sIx_nat, List.length_map]
        have e0 : HT.sIx (fs.map V.int).length 0 none = 0 := rfl
        rw [e1, e0, List.length_map] at hw
        have j0 : j = 0 := by
          have : fs.length ≠ 0 := fun e => g.ne (List.length_eq_zero_iff.mp e)
          omega
        subst j0
        refine k q [] _ (sb.trans (SB.of (same_new (Same.refl H') hq))) (hc4.new hq) ?_ Drawn.nil
        show upd _ _ _ _ = _
        rw [upd_same]
        congr 2
abbrev s_law_even_row : Stmt := top 37
abbrev n_law_even_row : List Str := ["_law_cup_here", "_law_turn", "_law_found", "_law_part"]
abbrev p_law_even_row : List Str := ["_law_cup_here"]
theorem sc_law_even_row : FnScope n_law_even_row p_law_even_row (defScope s_law_even_row) := ⟨rfl, rfl, rfl, by decide +kernel, rfl, by decide +kernel, by decide +kernel⟩
def S2 : List Int := [1, -1, 2, -2, 4, -4, 8, 6, 0, 3]
theorem S2_turn {a t : Int} (h : a ∈ [1, 1, 1, 3, 5]) (ht : t ∈ S2) : (if a * t < 0 then -(a * t) else a * t) ∈ S0 ∧ -(2 ^ 64) < a ∧ a < 2 ^ 64 := by
  have key : ∀ a ∈ ([1, 1, 1, 3, 5] : List Int), ∀ t ∈ S2, (if a * t < 0 then -(a * t) else a * t) ∈ S0 ∧ -(2 ^ 64) < a ∧ a < 2 ^ 64 := by decide
  exact key a h t ht
def sp_law_even_row : Sp := fun vs H Q _ => ∃ (c : Addr), vs = [.ref c] ∧ CupAt H c ∧ ∀ p fs H', SB c H H' → CupAt H' c → TupAt H' p fs → Drawn fs → Q (.ref p) H'
theorem ok_law_even_row {f : Addr} {fd : FuncData} (F : Fun K "_law_even_row" "_law_even_row" s_law_even_row f fd) (T : Bt mg) (C_law_roll : Df P w K mg base "_law_roll" 1 p_law_roll sp_law_roll) (C_law_some : Df P w K mg base "_law_some" 2 p_law_some sp_law_some) :
    FnOk P w K mg base CX0 3 f fd p_law_even_row sp_law_even_row := by
  refine F.ok sc_law_even_row (fun vs H Q E h => ?_) (fun cdv A outer s H vs Q E hr h => ?_)
  · obtain ⟨c, rfl, _⟩ := h
    rfl
  · obtain ⟨c, rfl, hc, k⟩ := h
    refine ⟨_, (pss_cons (ps_par (i := 2) (j := 3) rfl sc_law_even_row.nd rfl rfl (by decide) rfl rfl (pa_cons (pe_tup (pa_cons (pe_op op_sub (pe_df C_law_roll (hr.mono (by decide)) (by rfl) (pa_cons (pv 0) (pa_cons pe_int pa_nil))) pe_int) pa_nil)) (pa_cons (pe_df C_law_some (hr.mono (by decide)) (by rfl) (pa_cons (pv 0) (pa_cons (pe_lst (pa_cons pe_int (pa_cons pe_int (pa_cons pe_int (pa_cons pe_int (pa_cons pe_int pa_nil)))))) pa_nil))) pa_nil)) (by rfl))
    (pss_cons (ps_for PassesOwn.never rfl (pi_range1 (by rfl) T.range (pa_cons (pe_df C_law_roll (hr.mono (by decide)) (by rfl) (pa_cons (pv 0) (pa_cons pe_int pa_nil))) pa_nil)) (pg_name (i := 1) sc_law_even_row.nd rfl (by first | exact Or.inl rfl | exact Or.inr rfl))
        (pss_one (ps_set (i := 2) sc_law_even_row.nd rfl (Or.inl rfl) (pe_op op_catA (pv 2) (pe_tup (pa_cons (pe_op op_add (pe_ix ix_tup (pv 2) (pe_un un_neg pe_int) (fun _ _ => rfl)) (pe_op op_mul (pv 3) (pe_df C_law_some (hr.mono (by decide)) (by rfl) (pa_cons (pv 0) (pa_cons (pe_lst (pa_cons pe_int (pa_cons (pe_un un_neg pe_int) (pa_cons pe_int (pa_cons (pe_un un_neg pe_int) (pa_cons pe_int (pa_cons (pe_un un_neg pe_int) (pa_cons pe_int (pa_cons pe_int (pa_cons (pe_ifExp (pt_cmpR op_eq (pv 1) pe_int (nomark _)) pe_int pe_int) pa_nil)))))))))) pa_nil))))) pa_nil))))))
    (pss_one (ps_ret (pv 2))))), ?_⟩
    refine ⟨_, rfl, c, _, rfl, hc, by decide, by decide, fun r H1 r0 r1 sb1 hc1 => ⟨_, _, rfl, rfl, sz 1, fun p0 hp0 => ?_⟩⟩
    have np0 : p0 ≠ c := fun e => hc1.ne (e ▸ hp0)
    refine ⟨_, rfl, sz 5, fun l hl => ?_⟩
    have sA : Same H1 (upd (upd H1 p0 (.tup [.int (r - 4)])) l (.lst [.int 1, .int 1, .int 1, .int 3, .int 5])) := same_new' (same_new (Same.refl H1) hp0) hl
    refine ⟨c, l, [1, 1, 1, 3, 5], rfl, hc1.same sA, fun e => (hc1.new hp0).ne (e ▸ hl), upd_same, by decide, by decide, fun part H2 hpart sb2 hc2 => ⟨_, _, rfl, ?_⟩⟩
    have sb3 : SB c H H2 := (sb1.trans (SB.of sA)).trans sb2
    have nl : p0 ≠ l := fun e => by
      rw [e, upd_same] at hl
      cases hl
    have t2 : TupAt H2 p0 [r - 4] := sb2 _ _ np0 (by rw [upd_ne nl, upd_same]; rfl)
    refine ⟨_, rfl, c, _, rfl, hc2, by decide, by decide, fun n H3 n0 n1 sb4 hc3 => ⟨n, rfl, by omega, by omega, for_range (lo := 0) (n := n.toNat) (fun i σ H' => ∃ (p : Addr) (fs pre : List Int) (x : Int) (v : Option V), σ = [some (.ref c), v, some (.ref p), some (.int part)] ∧ SB c H H' ∧ CupAt H' c ∧ p ≠ c ∧ TupAt H' p fs ∧ Grown fs pre x ∧ fs.length = i + 1)
      ⟨p0, [r - 4], [], r - 4, none, rfl, sb3.trans sb4, hc3, np0, sb4.tup t2 np0, Grown.one ⟨by omega, by omega⟩, rfl⟩ ?_ ?_⟩⟩
    · rintro i σ H' hi ⟨p, fs, pre, x, v, rfl, sb, hc4, npc, ht, g, hlen⟩
      have after : ∀ (y : Int) (H6 : Hp), y ∈ S2 → SB c H' H6 → CupAt H6 c → ∀ (D : St → Hp → Prop),
          (∀ σ' H7, (∃ (p : Addr) (fs pre : List Int) (x : Int) (v : Option V), σ' = [some (.ref c), v, some (.ref p), some (.int part)] ∧ SB c H H7 ∧ CupAt H7 c ∧ p ≠ c ∧ TupAt H7 p fs ∧ Grown fs pre x ∧ fs.length = i + 1 + 1) → D σ' H7) →
          ∀ q, H6 q = none → rCatA K (.ref p) (.ref q) (upd H6 q (.tup [.int (x + part * y)])) fun v2 H7 => D [some (.ref c), some (.int (0 + (i : Int))), some v2, some (.int part)] H7 := by
        intro y H6 hy sb6 hc6 D hD q hq
        have ht6 := sb6.tup ht npc
        have s8 : Same H6 (upd H6 q (.tup [.int (x + part * y)])) := same_new (Same.refl H6) hq
        refine catT_ok (gs := [x + part * y]) (ht6.same s8).sq (SqT.of upd_same) g.ne (by simp) (by simp; omega) fun p2 H8 hp2 s9 ht8 => ?_
        have sC := s8.trans s9
        have hc8 := hc6.same sC
        refine hD _ _ ⟨p2, fs ++ [x + part * y], fs, x + part * y, some (.int (0 + (i : Int))), rfl, (sb.trans sb6).trans (SB.of sC), hc8, fun e => ?_, ht8, g.snoc (S2_turn hpart hy).1, by simp [hlen]⟩
        exact (hc6.same s8).ne (e ▸ hp2)
      refine ⟨_, rfl, _, rfl, 1, rfl, p, _, _, _, rfl, rfl, ht.sq, last_at g.eq, _, rfl, _, rfl, 1, rfl, 2, rfl, 4, rfl, _, rfl, rfl, _, rfl, iteD (fun _ => ?_) (fun _ => ?_)⟩
      · refine ⟨sz 9, fun l2 hl2 => ?_⟩
        refine ⟨c, l2, [1, -1, 2, -2, 4, -4, 8, 6, 0], rfl, hc4.new hl2, fun e => hc4.ne (e ▸ hl2), upd_same, by decide, by decide, fun y H6 hy0 sb6 hc6 => ?_⟩
        have hy : y ∈ S2 := (by decide : ∀ z ∈ ([1, -1, 2, -2, 4, -4, 8, 6, 0] : List Int), z ∈ S2) y hy0
        refine ⟨_, _, rfl, rfl, .inl (S2_turn hpart hy).2, _, _, rfl, rfl, sz 1, fun q hq => ?_⟩
        exact after y H6 hy ((SB.of (same_new (Same.refl H') hl2)).trans sb6) hc6 _ (fun σ' H7 h => h) q hq
      · refine ⟨sz 9, fun l2 hl2 => ?_⟩
        refine ⟨c, l2, [1, -1, 2, -2, 4, -4, 8, 6, 3], rfl, hc4.new hl2, fun e => hc4.ne (e ▸ hl2), upd_same, by decide, by decide, fun y H6 hy0 sb6 hc6 => ?_⟩
        have hy : y ∈ S2 := (by decide : ∀ z ∈ ([1, -1, 2, -2, 4, -4, 8, 6, 3] : List Int), z ∈ S2) y hy0
        refine ⟨_, _, rfl, rfl, .inl (S2_turn hpart hy).2, _, _, rfl, rfl, sz 1, fun q hq => ?_⟩
        exact after y H6 hy ((SB.of (same_new (Same.refl H') hl2)).trans sb6) hc6 _ (fun σ' H7 h => h) q hq
    · rintro σ H' ⟨p, fs, pre, x, v, rfl, sb, hc4, npc, ht, g, hlen⟩
      refine ⟨_, rfl, ?_⟩
      exact k p fs H' sb hc4 ht (g.drawn (by omega))
end
end Wet

end
section
set_option maxRecDepth 100000
namespace Wet
open PySem L2
theorem pows_index : ∀ z ∈ pows, ∃ j : Fin 9, pows[j.val]? = some z ∧ (j.val : Int) = (Nat.log2 z.toNat : Int) ∧ ∀ m : Fin 9, m.val < j.val → pows[m.val]? ≠ some z := by decide
theorem sset_self {l : List Int} (h : l.Pairwise (· < ·)) : sset l = l := lt_unique (sset_lt l) h (sset_mem l)
/-- a row of which the law can be asked -/
structure Okr (fs : List Int) : Prop where
  row : Row fs
  un : (0 : Int) ∈ steps fs ∨ ((fs = [] ∨ Fine fs) ∧ (steps fs).sum ≤ 500 ∧ (toldA fs).length < 64)
theorem pos_of {fs : List Int} (h : fs = [] ∨ Fine fs) : ∀ s ∈ steps fs, 0 < s := by
  rcases h with rfl | F
  · intro s hs
    cases hs
  · exact F.pos
section
variable {P : Program} {w : World} {K : PySem.W.Frag} {mg : Str → Option Value} {base : Heap}
def sp_washing_rings2 : Sp := fun vs H Q _ => ∃ (a : Addr) (fs : List Int), vs = [.ref a] ∧ TupAt H a fs ∧ Row fs ∧
  (((0 : Int) ∈ steps fs ∧ ∀ H', Same H H' → Q .non H') ∨ ((fs = [] ∨ Fine fs) ∧ ∀ p H', H p = none → Same H H' → LstAt H' p (toldA fs) → Q (.ref p) H'))
theorem wr2 (C : Df P w K mg base "washing_rings" 5 p_washing_rings sp_washing_rings) : Df P w K mg base "washing_rings" 5 p_washing_rings sp_washing_rings2 := by
  obtain ⟨f, fd, F, hm, hk, hb⟩ := C.ex
  refine ⟨f, fd, F.imp ?_, hm, hk, hb⟩
  rintro vs H Q E ⟨a, fs, rfl, ht, hR, h⟩
  refine ⟨a, fs, rfl, ht, hR, ?_⟩
  rcases h with h | ⟨h, k⟩
  · exact .inl h
  · right
    by_cases c : fs = []
    · left
      refine ⟨c, fun p H' hp s hL => k p H' hp s ?_⟩
      unfold toldA
      rw [if_pos c]
      exact hL
    · right
      rcases h with h | h
      · exact absurd h c
      · refine ⟨h, fun p H' hp s hL => k p H' hp s ?_⟩
        unfold toldA
        rw [if_neg c]
        exact hL
abbrev s_law_right : Stmt := top 38
abbrev n_law_right : List Str := ["_law_folds_here", "_law_sizes", "_law_odd", "_law_told", "_law_steps_here", "_law_size", "_law_powers", "_law_power"]
abbrev p_law_right : List Str := ["_law_folds_here"]
theorem sc_law_right : FnScope n_law_right p_law_right (defScope s_law_right) := ⟨rfl, rfl, rfl, by decide +kernel, rfl, by decide +kernel, by decide +kernel⟩
def sp_law_right : Sp := fun vs H Q _ => ∃ (a : Addr) (fs : List Int), vs = [.ref a] ∧ TupAt H a fs ∧ Okr fs ∧ ∀ H', Same H H' → Q (.bl true) H'
theorem ok_law_right {f : Addr} {fd : FuncData} (F : Fun K "_law_right" "_law_right" s_law_right f fd) (T : Bt mg) (Cwashing_rings : Df P w K mg base "washing_rings" 5 p_washing_rings sp_washing_rings2) (C_law_steps : Df P w K mg base "_law_steps" 1 p_law_steps sp_law_steps)
    (Cwashing_power : Df P w K mg base "washing_power" 5 p_washing_power sp_washing_power) (Cring_washes : Df P w K mg base "ring_washes" 5 p_ring_washes sp_ring_washes) (C_law_washed_by_steps : Df P w K mg base "_law_washed_by_steps" 2 p_law_washed_by_steps sp_law_washed_by_steps) :
    FnOk P w K mg base CX0 6 f fd p_law_right sp_law_right := by
  refine F.ok sc_law_right (fun vs H Q E h => ?_) (fun cdv A outer s H vs Q E hr h => ?_)
  · obtain ⟨a, fs, rfl, _⟩ := h
    rfl
  · obtain ⟨a, fs, rfl, ht, ⟨hR, hun⟩, k⟩ := h
    refine ⟨_, (pss_cons (ps_asg (pe_tup (pa_cons (pe_df Cwashing_rings (hr.mono (by decide)) (by rfl) (pa_cons (pv 0) pa_nil)) (pa_cons (pe_df C_law_steps (hr.mono (by decide)) (by rfl) (pa_cons (pv 0) pa_nil)) pa_nil))) (pg_tup (n := 2) rfl (pgs_cons (pg_name (i := 3) sc_law_right.nd rfl (by first | exact Or.inl rfl | exact Or.inr rfl)) (pgs_cons (pg_name (i := 4) sc_law_right.nd rfl (by first | exact Or.inl rfl | exact Or.inr rfl)) pgs_nil))))
    (pss_cons (ps_if (pt_cmpR op_in_seq pe_int (pv 4) (by first | rfl | with_unfolding_all rfl)) (pss_one (ps_ret (pe_and (pe_cmp (pc_isN (pv 3))) (pe_and (pe_cmp (pc_isN (pe_df Cwashing_power (hr.mono (by decide)) (by rfl) (pa_cons (pv 0) (pa_cons pe_int pa_nil))))) (pe_one (pe_cmp (pc_isN (pe_df Cwashing_power (hr.mono (by decide)) (by rfl) (pa_cons (pv 0) (pa_cons pe_int pa_nil)))))))))) pss_nil)
    (pss_cons (ps_setLc (i := 1) (own := [("_law_size", 5)]) (g := (gName 5)) (tt := (tB (tDf sp_law_washed_by_steps (tCons (tVar 5) (tCons (tVar 0) tNil))))) (te := (tVar 5)) rfl sc_law_right.nd rfl rfl (sw_true rfl rfl rfl (by decide +kernel)) (pi_range2 (by rfl) T.range (pa_cons pe_int (pa_cons (pe_callB (call_min2 rfl) (by rfl) T.min PyProof.Rows.boot_min (pa_cons (pe_op op_add (pe_op op_mul pe_int (pe_callB (cr_sum rfl) (by rfl) T.sum PyProof.Rows.boot_sum (pa_cons (pv 4) pa_nil))) pe_int) (pa_cons pe_int pa_nil))) pa_nil))) (blkOk_by (own := [("_law_size", 5)]) (N := n_law_right) (sc := defScope s_law_right) (by decide +kernel)) (fun _ _ _ _ _ => (pg_name (i := 5) sc_law_right.nd rfl (by first | exact Or.inl rfl | exact Or.inr rfl))) (fun _ _ _ _ _ => pts_one (pt_val (pe_df C_law_washed_by_steps (hr.mono (by decide)) (by rfl) (pa_cons (pv 5) (pa_cons (pv 0) pa_nil))))) (fun _ _ _ _ _ => (pv 5)))
    (pss_cons (ps_if (pw_or (pt_not (pt_val (pe_callB call_isi (by rfl) T.isinstance PyProof.Rows.boot_isinstance (pa_cons (pv 3) (pa_cons (pe_bltn (v := .ty "list") (by rfl) T.list PyProof.Rows.boot_list rfl) pa_nil))))) (pw_or (pt_cmpR (op_neD hr.units) (pe_lc (own := [("_law_size", 5)]) (g := (gName 5)) (tt := (tTest (tOp (rI0 fun i j => .bl (decide (i < j))) (tVar 5) (tC (.int 90))))) (te := (tVar 5)) rfl sc_law_right.nd (pi_list (pv 3)) (blkOk_by (own := [("_law_size", 5)]) (N := n_law_right) (sc := defScope s_law_right) (by decide +kernel)) (fun _ _ _ _ _ => (pg_name (i := 5) sc_law_right.nd rfl (by first | exact Or.inl rfl | exact Or.inr rfl))) (fun _ _ _ _ _ => pts_one (pt_cmpR op_lt (pv 5) pe_int (nomark _))) (fun _ _ _ _ _ => (pv 5))) (pv 1) (nomark _)) (pw_or1 (pt_cmpR (op_neD hr.units) (pv 3) (pe_sortedSet (by rfl) T.sorted (by rfl) T.set (pv 3)) (nomark _))))).pt (pss_one (ps_ret pe_bl)) pss_nil)
    (pss_cons (ps_if (pt_cmpR (op_neD hr.units) (pe_lc (own := [("_law_size", 5)]) (g := (gName 5)) (tt := (tOr (tTest (tOp rNotB (tDf sp_ring_washes (tCons (tVar 5) (tCons (tVar 0) tNil))) (tC (.bl true)))) (tTest (tOp rNe (tDf sp_ring_washes (tCons (tOp (rI CMul fun i j => .int (i * j)) (tC (.int 2)) (tVar 5)) (tCons (tVar 0) tNil))) (tOp (rIn K false) (tOp (rI CMul fun i j => .int (i * j)) (tC (.int 2)) (tVar 5)) (tVar 3)))))) (te := (tVar 5)) rfl sc_law_right.nd (pi_list (pv 3)) (blkOk_by (own := [("_law_size", 5)]) (N := n_law_right) (sc := defScope s_law_right) (by decide +kernel)) (fun _ _ _ _ _ => (pg_name (i := 5) sc_law_right.nd rfl (by first | exact Or.inl rfl | exact Or.inr rfl))) (fun _ _ _ _ _ => pts_one (pw_or (pt_cmpR op_notBl (pe_df Cring_washes (hr.mono (by decide)) (by rfl) (pa_cons (pv 5) (pa_cons (pv 0) pa_nil))) pe_bl (nomark _)) (pw_or1 (pt_cmpR op_ne (pe_df Cring_washes (hr.mono (by decide)) (by rfl) (pa_cons (pe_op op_mul pe_int (pv 5)) (pa_cons (pv 0) pa_nil))) (pe_cmpR op_in_seq (pe_op op_mul pe_int (pv 5)) (pv 3) (by first | rfl | with_unfolding_all rfl)) (nomark _)))).pt) (fun _ _ _ _ _ => (pv 5))) (pe_lst pa_nil) (nomark _)) (pss_one (ps_ret pe_bl)) pss_nil)
    (pss_cons (ps_for PassesOwn.never rfl (pi_tup (pe_tup (pa_cons pe_int (pa_cons pe_int (pa_cons pe_int (pa_cons pe_int (pa_cons pe_int pa_nil))))))) (pg_name (i := 2) sc_law_right.nd rfl (by first | exact Or.inl rfl | exact Or.inr rfl))
        (pss_cons (ps_par (i := 6) (j := 7) rfl sc_law_right.nd rfl rfl (by decide) rfl rfl (pa_cons (pe_lc (own := [("_law_size", 5)]) (g := (gName 5)) (tt := (tAnd (tTest (tOp rEq (tOp (rI (fun _ j => 0 < j) fun i j => .int (i % j)) (tCB rInt1 (tCons (tVar 5) tNil)) (tVar 2)) (tC (.int 0)))) (tTest (tOp (rIn K false) (tOp (rI CDiv fun i j => .int (i / j)) (tVar 5) (tVar 2)) (tTup (tCons (tC (.int 1)) (tCons (tC (.int 2)) (tCons (tC (.int 4)) (tCons (tC (.int 8)) (tCons (tC (.int 16)) (tCons (tC (.int 32)) (tCons (tC (.int 64)) (tCons (tC (.int 128)) (tCons (tC (.int 256)) tNil)))))))))))))) (te := (tVar 5)) rfl sc_law_right.nd (pi_list (pv 3)) (blkOk_by (own := [("_law_size", 5)]) (N := n_law_right) (sc := defScope s_law_right) (by decide +kernel)) (fun _ _ _ _ _ => (pg_name (i := 5) sc_law_right.nd rfl (by first | exact Or.inl rfl | exact Or.inr rfl))) (fun _ _ _ _ _ => pts_one (pw_and (pt_cmpR op_eq (pe_op op_mod (pe_callTy call_int2 (by rfl) T.int PyProof.Rows.boot_int (pa_cons (pv 5) pa_nil)) (pv 2)) pe_int (nomark _)) (pw_and1 (pt_cmpR op_in_seq (pe_op op_fdiv (pv 5) (pv 2)) (pe_tup (pa_cons pe_int (pa_cons pe_int (pa_cons pe_int (pa_cons pe_int (pa_cons pe_int (pa_cons pe_int (pa_cons pe_int (pa_cons pe_int (pa_cons pe_int pa_nil)))))))))) (by first | rfl | with_unfolding_all rfl)))).pt) (fun _ _ _ _ _ => (pv 5))) (pa_cons (pe_un un_neg pe_int) pa_nil)) (by rfl))
        (pss_cons (ps_for PassesOwn.never rfl (pi_list (pv 6)) (pg_name (i := 5) sc_law_right.nd rfl (by first | exact Or.inl rfl | exact Or.inr rfl))
            (pss_one (ps_set (i := 7) sc_law_right.nd rfl (Or.inl rfl) (pe_callB (call_max2 rfl) (by rfl) T.max PyProof.Rows.boot_max (pa_cons (pv 7) (pa_cons (pe_bm PySem.F.plainAttrs_list PySem.F.slot_list_index PySem.F.type_list_index mt_index (pe_lst (pa_cons pe_int (pa_cons pe_int (pa_cons pe_int (pa_cons pe_int (pa_cons pe_int (pa_cons pe_int (pa_cons pe_int (pa_cons pe_int (pa_cons pe_int pa_nil)))))))))) (pa_cons (pe_op op_fdiv (pv 5) (pv 2)) pa_nil)) pa_nil))))))
        (pss_one (ps_if (pt_cmpR op_ne (pe_df Cwashing_power (hr.mono (by decide)) (by rfl) (pa_cons (pv 0) (pa_cons (pv 2) pa_nil))) (pv 7) (nomark _)) (pss_one (ps_ret pe_bl)) pss_nil)))))
    (pss_one (ps_ret pe_bl)))))))), ?_⟩
    have h12 := hR.1
    rcases hun with hz | ⟨hF, hsum, hfew⟩
    · -- a step of 0
      refine ⟨_, rfl, a, fs, rfl, ht, hR, .inl ⟨hz, fun H1 s1 => ⟨_, rfl, a, fs, rfl, ht.same s1, h12, fun q H2 hq s2 hS => ⟨sz 2, fun t htn => ⟨t, _, rfl, SqT.of upd_same, rfl, _, _, rfl, _, _, rfl, rfl, ?_⟩⟩⟩⟩⟩
      have s3 : Same H (upd H2 t (.tup [.non, .ref q])) := same_new' (s1.trans s2) htn
      have hS3 : LstAt (upd H2 t (.tup [.non, .ref q])) q (steps fs) := hS.same (same_new (Same.refl H2) htn)
      have wn : ∀ o, wp fs o = .non := fun o => if_pos hz
      refine ⟨_, rfl, inL_ok hS3.sq ⟨_, rfl, iteD (fun _ => ?_) (fun h => absurd hz h)⟩⟩
      refine ⟨_, rfl, _, rfl, iteD (fun _ => ?_) (fun h => absurd rfl h)⟩
      refine ⟨_, rfl, a, fs, 3, rfl, ht.same s3, hR, by decide, by decide, by decide, fun H4 s4 => ⟨_, rfl, iteD (fun _ => ?_) (fun h => absurd (wn 3) h)⟩⟩
      refine ⟨_, rfl, a, fs, 999999, rfl, ht.same (s3.trans s4), hR, by decide, by decide, by decide, fun H5 s5 => ?_⟩
      have := k H5 ((s3.trans s4).trans s5)
      show Q (.bl (decide (wp fs 999999 = .non))) H5
      rw [decide_eq_true (wn 999999)]
      exact this
    · have hp := pos_of hF
      have sn := sum_nonneg (steps fs) (steps_nonneg fs)
      refine ⟨_, rfl, a, fs, rfl, ht, hR, .inr ⟨hF, fun p H1 hp1 s1 hT1 => ⟨_, rfl, a, fs, rfl, ht.same s1, h12, fun q H2 hq s2 hS2 => ⟨sz 2, fun t htn => ⟨t, _, rfl, SqT.of upd_same, rfl, _, _, rfl, _, _, rfl, rfl, ?_⟩⟩⟩⟩⟩
      have s3 : Same H (upd H2 t (.tup [.ref p, .ref q])) := same_new' (s1.trans s2) htn
      have hS3 : LstAt (upd H2 t (.tup [.ref p, .ref q])) q (steps fs) := hS2.same (same_new (Same.refl H2) htn)
      have hT3 : LstAt (upd H2 t (.tup [.ref p, .ref q])) p (toldA fs) := (hT1.same s2).same (same_new (Same.refl H2) htn)
      generalize upd H2 t (.tup [.ref p, .ref q]) = H3 at s3 hS3 hT3
      refine ⟨_, rfl, inL_ok hS3.sq ⟨_, rfl, iteD (fun h => absurd h (no0 hp)) (fun _ => ?_)⟩⟩
      -- _law_sizes
      have tl : ∀ x ∈ toldA fs, 0 < x ∧ x ≤ 502 := fun x hx => by
        have := toldA_le hp hx
        omega
      have rt : ringTo fs ≤ 90 ∧ 3 ≤ ringTo fs := by unfold ringTo; split <;> omega
      refine ⟨_, rfl, q, steps fs, rfl, hS3.sq, _, _, rfl, rfl, .inl ⟨by decide, by decide⟩, _, _, rfl, rfl, _, _, rfl, 1, ringTo fs, rfl, ⟨by decide, by decide, by omega, by omega⟩, fun D hD => lc_range (lo := 1) (n := (ringTo fs - 1).toNat) (fun i H' => Same H3 H' ∧ LstAt H' D (((List.range i).map fun (j : Nat) => 1 + (j : Int)).filter fun x => decide (x ∈ toldA fs))) ⟨same_new (Same.refl H3) hD, upd_same⟩ ?_ ?_⟩
      · rintro i H4 hi ⟨s4, hL4⟩
        have sc : ((List.range (i + 1)).map fun (j : Nat) => 1 + (j : Int)).filter (fun x => decide (x ∈ toldA fs)) = ((List.range i).map fun (j : Nat) => 1 + (j : Int)).filter (fun x => decide (x ∈ toldA fs)) ++ if decide (1 + (i : Int) ∈ toldA fs) = true then [1 + (i : Int)] else [] := by
          rw [List.range_succ, List.map_append, List.filter_append]
          congr 1
          show [1 + (i : Int)].filter _ = _
          by_cases c : 1 + (i : Int) ∈ toldA fs <;> simp [c]
        refine ⟨rfl, _, rfl, _, rfl, 1 + (i : Int), a, fs, rfl, ht.same (s3.trans s4), h12, hp, by omega, by omega, fun H5 s5 => ⟨_, rfl, iteD (fun c => ?_) (fun c => ?_)⟩⟩
        · refine ⟨_, rfl, _, s5 _ _ hL4, ?_, same_new (s4.trans s5) hD, ?_⟩
          · refine szl ?_
            have := List.length_filter_le (fun x => decide (x ∈ toldA fs)) ((List.range i).map fun (j : Nat) => 1 + (j : Int))
            simp only [List.length_map, List.length_range] at this
            rw [List.length_map]
            omega
          · show upd _ _ _ _ = _
            rw [upd_same, sc, if_pos (decide_eq_true c), List.map_append]
            rfl
        · refine ⟨s4.trans s5, ?_⟩
          rw [sc, if_neg (by simpa using c), List.append_nil]
          exact s5 _ _ hL4
      · rintro H4 ⟨s4, hL4⟩
        rw [← sizes_eq hp] at hL4
        have hT4 := hT3.same s4
        -- the first test
        refine ⟨_, rfl, _, _, _, _, true, rfl, .ty "list", .base (.lst hT4), kit_ty (by decide +kernel), true, rfl, iteF ?_⟩
        refine ⟨_, rfl, p, rfl, ⟨_, hT4.sq⟩, fun D2 hD2 => lc_list (K := K) (a := p) (xs := (toldA fs).map V.int) (fun i H' => Same H4 H' ∧ LstAt H' D2 (((toldA fs).take i).filter fun x => decide (x < 90))) ⟨same_new (Same.refl H4) hD2, upd_same⟩ (fun i H' _ g => g.1.seq hT4.sq) ?_ ?_⟩
        · rintro i x H5 hx ⟨s5, hL5⟩
          obtain ⟨v, hv, rfl⟩ : ∃ v, (toldA fs)[i]? = some v ∧ V.int v = x := by simpa using hx
          have il := (List.getElem?_eq_some_iff.mp hv).1
          refine ⟨rfl, _, rfl, _, _, rfl, rfl, _, rfl, iteD (fun c => ?_) (fun c => ?_)⟩
          · refine ⟨_, rfl, _, hL5, ?_, same_new s5 hD2, ?_⟩
            · refine szl ?_
              have := List.length_filter_le (fun x => decide (x < 90)) ((toldA fs).take i)
              rw [List.length_take] at this
              rw [List.length_map]
              omega
            · show upd _ _ _ _ = _
              rw [upd_same, filter_take hv, if_pos (decide_eq_true c), List.map_append]
              rfl
          · refine ⟨s5, ?_⟩
            rw [filter_take hv, if_neg (by simpa using c), List.append_nil]
            exact hL5
        · rintro H5 ⟨s5, hL5⟩
          rw [List.length_map, List.take_length] at hL5
          refine ⟨_, rfl, neL_ok hL5.sq (hL4.same s5).sq ⟨_, rfl, iteN (fun c => absurd rfl c) (fun _ => ?_)⟩⟩
          have hT5 := hT4.same s5
          refine ⟨_, rfl, _, rfl, sortSet_ok hT5.sq hfew fun p2 H6 hp2 s6 hL6 => ?_⟩
          rw [sset_self (toldA_lt hp)] at hL6
          have hT6 := hT5.same s6
          refine neL_ok hT6.sq (SqL.of hL6) ⟨_, rfl, iteN (fun c => absurd rfl c) (fun _ => ?_)⟩
          have s7 := (s3.trans s4).trans (s5.trans s6)
          have ht6 := ht.same s7
          -- the second test
          refine ⟨_, rfl, p, rfl, ⟨_, hT6.sq⟩, fun D3 hD3 => lc_list (K := K) (a := p) (xs := (toldA fs).map V.int) (fun i H' => Same H6 H' ∧ LstAt H' D3 []) ⟨same_new (Same.refl H6) hD3, upd_same⟩ (fun i H' _ g => g.1.seq hT6.sq) ?_ ?_⟩
          · rintro i x H7 hx ⟨s8, hL7⟩
            obtain ⟨v, hv, rfl⟩ : ∃ v, (toldA fs)[i]? = some v ∧ V.int v = x := by simpa using hx
            have vm := List.mem_of_getElem? hv
            obtain ⟨v0, v1⟩ := tl v vm
            have hne : fs ≠ [] := by
              rintro rfl
              cases vm
            have Fi : Fine fs := by
              rcases hF with h | h
              · exact absurd h hne
              · exact h
            have ta : toldA fs = told fs := by unfold toldA; rw [if_neg hne]
            have w1 : twos v ≤ weight fs (oddOf v) := ((told_mem hp v).mp (ta ▸ vm)).2
            have w2 : (2 * v ∈ toldA fs) ↔ twos (2 * v) ≤ weight fs (oddOf (2 * v)) := by
              rw [ta, told_mem hp]
              exact ⟨fun h => h.2, fun h => ⟨by omega, h⟩⟩
            have hT7 := hT6.same s8
            refine ⟨rfl, _, rfl, _, rfl, v, a, fs, rfl, ht6.same s8, hR, Fi.toSome0, v0, by omega, fun H8 s9 => ⟨_, _, rfl, rfl, _, rfl, iteN (fun c => absurd (decide_eq_true w1) c) (fun _ => ?_)⟩⟩
            refine ⟨_, rfl, _, _, rfl, rfl, .inl ⟨by decide, by decide⟩, _, rfl, 2 * v, a, fs, rfl, (ht6.same s8).same s9, hR, Fi.toSome0, by omega, by omega, fun H9 s10 => ?_⟩
            have hT9 := (hT7.same s9).same s10
            refine ⟨_, rfl, _, _, rfl, rfl, .inl ⟨by decide, by decide⟩, _, rfl, inL_ok hT9.sq ⟨rfl, _, rfl, iteN (fun c => absurd ?_ c) (fun _ => ?_)⟩⟩
            · exact congrArg V.bl (decide_eq_decide.mpr w2.symm)
            · exact ⟨(s8.trans s9).trans s10, s10 _ _ (s9 _ _ hL7)⟩
          · rintro H7 ⟨s8, hL7⟩
            refine ⟨sz 0, fun e he => ?_⟩
            have sE : Same H7 (upd H7 e (.lst [])) := same_new (Same.refl H7) he
            refine neL_ok (fs := []) (gs := []) (sE.seq hL7.sq) (SqL.of upd_same) ⟨_, rfl, iteN (fun c => absurd rfl c) (fun _ => ?_)⟩
            have s9 : Same H (upd H7 e (.lst [])) := (s7.trans s8).trans sE
            have hT9 : LstAt (upd H7 e (.lst [])) p (toldA fs) := (hT6.same s8).same sE
            generalize upd H7 e (.lst []) = H9 at s9 hT9
            -- for _law_odd in (3, 5, 7, 9, 15)
            refine ⟨sz 5, fun u hu0 => ⟨u, rfl, ⟨_, SqT.of upd_same⟩, for_it (walk_tup (xs := ([3, 5, 7, 9, 15] : List Int).map V.int)) (fun i σ H' => ∃ v2 v5 v6 v7 : Option V, σ = [some (.ref a), some (.ref D), v2, some (.ref p), some (.ref q), v5, v6, v7] ∧ Same H H' ∧ LstAt H' p (toldA fs) ∧ TupAt H' u [3, 5, 7, 9, 15])
              ⟨none, none, none, none, rfl, same_new' s9 hu0, hT9.same (same_new (Same.refl H9) hu0), upd_same⟩ (fun i σ H' _ ⟨_, _, _, _, _, _, _, g⟩ => g.sq) ?_ ?_⟩⟩
            · rintro i x σ H10 H11 hi ⟨v2, v5, v6, v7, rfl, s10, hT10, hU⟩ ⟨rfl, hx⟩
              obtain ⟨o, ho, rfl⟩ : ∃ o, ([3, 5, 7, 9, 15] : List Int)[i]? = some o ∧ V.int o = x := by
                rw [List.getElem?_map, Option.map_eq_some_iff] at hx
                exact hx
              obtain ⟨o3, o15, oo⟩ : 3 ≤ o ∧ o ≤ 15 ∧ o % 2 = 1 := (by decide : ∀ o ∈ ([3, 5, 7, 9, 15] : List Int), 3 ≤ o ∧ o ≤ 15 ∧ o % 2 = 1) o (List.mem_of_getElem? ho)
              -- _law_powers
              refine ⟨_, rfl, p, rfl, ⟨_, hT10.sq⟩, fun D4 hD4 => lc_list (K := K) (a := p) (xs := (toldA fs).map V.int) (fun i H' => Same H11 H' ∧ LstAt H' D4 (((toldA fs).take i).filter fun s => decide (s % o = 0) && decide (s / o ∈ pows))) ⟨same_new (Same.refl H11) hD4, upd_same⟩ (fun i H' _ g => g.1.seq hT10.sq) ?_ ?_⟩
              · rintro j y H12 hy ⟨s12, hL12⟩
                obtain ⟨v, hv, rfl⟩ : ∃ v, (toldA fs)[j]? = some v ∧ V.int v = y := by simpa using hy
                have jl := (List.getElem?_eq_some_iff.mp hv).1
                refine ⟨rfl, _, rfl, .inl ⟨v, rfl, _, rfl, _, _, rfl, rfl, (by show (0 : Int) < o; omega), rfl, _, rfl, iteD (fun c => ?_) (fun c => ?_)⟩⟩
                · have c0 : v % o = 0 := V.int.inj c
                  refine ⟨_, rfl, _, rfl, _, _, rfl, rfl, ⟨by omega, by omega⟩, sz 9, fun t2 ht2 => ?_⟩
                  have s13 : Same H12 (upd H12 t2 (.tup (pows.map V.int))) := same_new (Same.refl H12) ht2
                  refine inT_ok (fs := pows) (SqT.of upd_same) ⟨_, rfl, iteD (fun c2 => ?_) (fun c2 => ?_)⟩
                  · refine ⟨_, rfl, _, s13 _ _ hL12, ?_, same_new (s12.trans s13) hD4, ?_⟩
                    · refine szl ?_
                      have := List.length_filter_le (fun s => decide (s % o = 0) && decide (s / o ∈ pows)) ((toldA fs).take j)
                      rw [List.length_take] at this
                      rw [List.length_map]
                      omega
                    · show upd _ _ _ _ = _
                      rw [upd_same, filter_take hv, if_pos (by rw [decide_eq_true c0, decide_eq_true c2]; rfl), List.map_append]
                      rfl
                  · refine ⟨s12.trans s13, ?_⟩
                    rw [filter_take hv, if_neg (by rw [decide_eq_false c2, Bool.and_false]; exact Bool.false_ne_true), List.append_nil]
                    exact s13 _ _ hL12
                · have c0 : ¬ v % o = 0 := fun e => c (congrArg V.int e)
                  refine ⟨s12, ?_⟩
                  rw [filter_take hv, if_neg (by rw [decide_eq_false c0, Bool.false_and]; exact Bool.false_ne_true), List.append_nil]
                  exact hL12
              · rintro H12 ⟨s12, hL12⟩
                rw [List.length_map, List.take_length] at hL12
                have hP : LstAt H12 D4 (powersOf fs o) := hL12
                refine ⟨1, rfl, _, _, rfl, ?_⟩
                -- the inner loop
                refine ⟨_, rfl, D4, rfl, ⟨_, hP.sq⟩, for_list (K := K) (a := D4) (xs := (powersOf fs o).map V.int) (fun j σ H' => ∃ v5 : Option V, σ = [some (.ref a), some (.ref D), some (.int o), some (.ref p), some (.ref q), v5, some (.ref D4), some (.int (best o ((powersOf fs o).take j)))] ∧ Same H12 H')
                  ⟨v5, rfl, Same.refl H12⟩ (fun j σ H' _ ⟨_, _, g⟩ => g.seq hP.sq) ?_ ?_⟩
                · rintro j y σ H13 hy ⟨v5', rfl, s13⟩
                  obtain ⟨v, hv, rfl⟩ : ∃ v, (powersOf fs o)[j]? = some v ∧ V.int v = y := by
                    rw [List.getElem?_map, Option.map_eq_some_iff] at hy
                    exact hy
                  have vm := List.mem_of_getElem? hv
                  have vp : v / o ∈ pows := by
                    have := (List.mem_filter.mp vm).2
                    rw [Bool.and_eq_true] at this
                    exact of_decide_eq_true this.2
                  obtain ⟨jj, j1, j2, j3⟩ := pows_index _ vp
                  refine ⟨_, rfl, sz 9, fun l hl => ?_⟩
                  refine ⟨.inl ⟨rfl, _, SqL.of upd_same⟩, _, rfl, _, rfl, _, _, rfl, rfl, ⟨by omega, by omega⟩, l, pows.map V.int, _, jj.val, .int (v / o), rfl, rfl, SqL.of upd_same, rfl, rfl, ?_, ?_, ?_, _, _, rfl, ?_⟩
                  · rw [List.getElem?_map, j1]
                    rfl
                  · show (v / o == v / o) = true
                    exact beq_self_eq_true _
                  · intro m z' hm hz
                    rw [List.getElem?_map, Option.map_eq_some_iff] at hz
                    obtain ⟨z, hz1, rfl⟩ := hz
                    show (z == v / o) = false
                    refine beq_eq_false_iff_ne.mpr fun e => ?_
                    exact j3 ⟨m, Nat.lt_trans hm jj.isLt⟩ hm (e ▸ hz1)
                  · refine ⟨some (.int v), ?_, same_new' s13 hl⟩
                    have e : best o ((powersOf fs o).take (j + 1)) = if (jj.val : Int) > best o ((powersOf fs o).take j) then (jj.val : Int) else best o ((powersOf fs o).take j) := by
                      unfold best
                      rw [List.take_add_one, hv, List.foldl_append]
                      show (if idx o v > _ then idx o v else _) = _
                      unfold idx
                      rw [← j2]
                    rw [e]
                    rfl
                · rintro σ H13 ⟨v5', rfl, s13⟩
                  rw [List.length_map, List.take_length, best_powers hp hsum (by omega) oo]
                  have s14 : Same H H13 := (s10.trans s12).trans s13
                  have ew : wp fs o = .int (if fs = [] then -1 else powW (weight fs o)) := by
                    unfold wp
                    rw [if_neg (no0 hp)]
                    split <;> rfl
                  refine ⟨_, rfl, _, rfl, a, fs, o, rfl, ht.same s14, hR, o3, by omega, oo, fun H14 s15 => ?_⟩
                  rw [ew]
                  refine ⟨_, rfl, rfl, _, rfl, iteN (fun c => absurd rfl c) (fun _ => ?_)⟩
                  have s16 : Same H11 H14 := (s12.trans s13).trans s15
                  exact ⟨some (.int o), v5', some (.ref D4), _, rfl, s10.trans s16, hT10.same s16, hU.same s16⟩
            · rintro σ H10 ⟨v2, v5, v6, v7, rfl, s10, hT10, hU⟩
              exact k H10 s10
end
end Wet

end
section
set_option maxRecDepth 100000
namespace Wet
open PySem L2
/-! ### the rows of the law -/
theorem sum_le (m : Int) : ∀ l : List Int, (∀ s ∈ l, s ≤ m) → l.sum ≤ m * l.length
  | [], _ => by simp
  | s :: r, h => by
    have h1 := h s List.mem_cons_self
    have h2 := sum_le m r fun x hx => h x (List.mem_cons_of_mem _ hx)
    simp only [List.sum_cons, List.length_cons]
    rw [show ((r.length + 1 : Nat) : Int) = (r.length : Int) + 1 by omega, Int.mul_add]
    omega
def oddS : List Int := [1, 3, 5, 7, 9, 15]
theorem S0_few : ∀ s ∈ S0, 0 < s → Few s := by decide +kernel
theorem S0_odd : ∀ s ∈ S0, 0 < s → ∀ o ∈ oddParts s, o ∈ oddS := by decide +kernel
def manyS : List Int := oddS.flatMap fun o => (List.range 8).map fun i => o * 2 ^ i
theorem Drawn.okr {fs : List Int} (d : Drawn fs) : Okr fs := by
  have hst : ∀ s ∈ steps fs, s ∈ S0 := fun s hs => d.st s ((isort_perm _).mem_iff.mp hs)
  have hl := d.len
  have hsl := steps_length fs
  have hsum : (steps fs).sum ≤ 240 := by
    have := sum_le 40 (steps fs) fun s hs => (S0_le (hst s hs)).2
    omega
  refine ⟨⟨by omega, fun v hv => ?_⟩, ?_⟩
  · have := d.bd v hv
    exact ⟨by omega, by omega⟩
  · by_cases h0 : (0 : Int) ∈ steps fs
    · exact .inl h0
    · have pos : ∀ s ∈ steps fs, 0 < s := fun s hs => by
        have h1 := (S0_le (hst s hs)).1
        rcases Int.lt_or_eq_of_le h1 with h | h
        · exact h
        · exact absurd (h ▸ hs) h0
      right
      by_cases hn : fs = []
      · subst hn
        exact ⟨.inl rfl, by decide, by decide⟩
      · have F : Fine fs := ⟨⟨by omega, hn, pos⟩, fun s hs => S0_few s (hst s hs) (pos s hs), by omega⟩
        refine ⟨.inr F, by omega, ?_⟩
        have nd : (toldA fs).Nodup := (toldA_lt pos).imp fun h e => by omega
        have sub : toldA fs ⊆ manyS := by
          intro x hx
          unfold toldA at hx
          rw [if_neg hn] at hx
          unfold told toldRaw at hx
          rw [(isort_perm _).mem_iff, List.mem_flatMap] at hx
          obtain ⟨o, ho, hx⟩ := hx
          obtain ⟨i, rfl, hi⟩ := dbl_mem.mp hx
          obtain ⟨o0, o1⟩ := odds_odd pos ho
          have hw := weight_le pos o0 o1
          have hw2 : weight fs o ≤ o * weight fs o := by
            have := Int.mul_le_mul_of_nonneg_right (show 1 ≤ o by omega) (weight_nonneg pos o)
            omega
          have hi8 : i < 8 := by
            rcases Nat.lt_or_ge i 8 with h | h
            · exact h
            · have h1 : (2 : Int) ^ 8 ≤ 2 ^ i := Int.le_of_dvd (two_pow_pos i) (two_pow_dvd h)
              have h2 : (2 : Int) ^ 8 = 256 := by decide
              omega
          refine List.mem_flatMap.mpr ⟨o, ?_, List.mem_map.mpr ⟨i, List.mem_range.mpr hi8, rfl⟩⟩
          rcases (odds_mem fs o).mp ho with rfl | ⟨s, hs, ho⟩
          · decide
          · exact S0_odd s (hst s hs) (pos s hs) o ho
        have := List.Nodup.length_le_of_subset nd sub
        have e : manyS.length = 48 := by decide
        omega
/-- a row whose told sizes are looked up -/
def Due (fs due : List Int) : Prop := Row fs ∧ (fs = [] ∨ (fs.length ≤ 12 ∧ fs ≠ [] ∧ (∀ s ∈ steps fs, 0 < s) ∧ (∀ s ∈ steps fs, Few s) ∧ (steps fs).sum ≤ 90000000)) ∧ toldA fs = due
theorem Due.fine {fs due : List Int} (h : Due fs due) : fs = [] ∨ Fine fs := h.2.1.imp id fun ⟨a, b, c, d, e⟩ => ⟨⟨a, b, c⟩, d, e⟩
theorem Due.okr {fs due : List Int} (h : Due fs due) (h1 : (steps fs).sum ≤ 500) (h2 : due.length < 64) : Okr fs := ⟨h.1, .inr ⟨h.fine, h1, by rw [h.2.2]; exact h2⟩⟩
instance (fs due : List Int) : Decidable (Due fs due) := by unfold Due; infer_instance
def rowsL1 : List (List Int × List Int) := [([0, 12], [1, 2, 3, 4, 6, 12]), ([1], [1]), ([], []), ([4], [1, 2]), ([0, 2], [1, 2, 4]), ([0, 2, 6], [1, 2, 4, 8]), ([1, 2], [1, 2])]
def rowsL2 : List (List Int × List Int) := [([1, 4], [1, 2, 3]), ([0, 3, 6], [1, 2, 3, 4, 6]), ([0, 15], [1, 2, 3, 5, 15]), ([0, 9, 24], [1, 2, 3, 4, 5, 6, 9, 15]), ([0, 64], [1, 2, 4, 8, 16, 32, 64])]
theorem rows_due : ∀ r ∈ rowsL1 ++ rowsL2, Due r.1 r.2 ∧ (steps r.1).sum ≤ 500 ∧ r.2.length < 64 := by decide +kernel
def lastL : List Int := toldA [-1000000, 1000000]
theorem last_due : Due [-1000000, 1000000] lastL := ⟨by decide +kernel, by decide +kernel, rfl⟩
theorem last_len : lastL.length = 56 := by decide +kernel
theorem last_last : lastL.getLast? = some 2000000 := by decide +kernel
theorem last_five : lastL.take 5 = [1, 2, 4, 5, 8] := by decide +kernel
theorem last_end : atI (lastL.map V.int) (-1) = some (.int 2000000) := by decide +kernel
theorem last_cut : cutV (lastL.map V.int) none (some 5) = ([1, 2, 4, 5, 8] : List Int).map V.int := by decide +kernel
theorem rows_none : (Row [4, 4] ∧ (0 : Int) ∈ steps [4, 4]) ∧ (Row [0, 0, 5] ∧ (0 : Int) ∈ steps [0, 0, 5]) ∧ (Row [0, 0] ∧ (0 : Int) ∈ steps [0, 0]) := by decide +kernel
theorem rows_row : Row [0, 12, 6] ∧ Row [] ∧ Row [0, 999999] ∧ Row [0, 96, 0, 96] := by decide +kernel
theorem wp1 : wp [0, 12, 6] 3 = .int 2 := by decide +kernel
theorem wp2 : wp [0, 12, 6] 5 = .int (-1) := by decide +kernel
theorem wp3 : wp [] 3 = .int (-1) := by decide +kernel
theorem wp4 : wp [0, 999999] 999999 = .int 0 := by decide +kernel
theorem wp5 : wp [0, 96, 0, 96] 3 = .int 6 := by decide +kernel
theorem wp6 : wp [0, 0] 3 = .non := by decide +kernel
end Wet

end
section
set_option maxRecDepth 100000
namespace Wet
open PySem L2
/-- a row of the law's own list: a tuple of the folds and the sizes due -/
def RowAt (H : Hp) (v : V) : Prop := ∃ r p l fs due, v = .ref r ∧ H r = some (.tup [.ref p, .ref l]) ∧ TupAt H p fs ∧ LstAt H l due ∧ (fs, due) ∈ rowsL1 ++ rowsL2
theorem RowAt.same {H H' : Hp} {v : V} (h : RowAt H v) (s : Same H H') : RowAt H' v := by
  obtain ⟨r, p, l, fs, due, e, h1, h2, h3, h4⟩ := h
  exact ⟨r, p, l, fs, due, e, s _ _ h1, h2.same s, h3.same s, h4⟩
theorem row_new {H : Hp} {p l r : Addr} {xs ys : List V} (hp : H p = none) (hl : upd H p (.tup xs) l = none) (hr : upd (upd H p (.tup xs)) l (.lst ys) r = none) (fs due : List Int)
    (e1 : xs = fs.map V.int) (e2 : ys = due.map V.int) (hd : (fs, due) ∈ rowsL1 ++ rowsL2) :
    Same H (upd (upd (upd H p (.tup xs)) l (.lst ys)) r (.tup [.ref p, .ref l])) ∧ RowAt (upd (upd (upd H p (.tup xs)) l (.lst ys)) r (.tup [.ref p, .ref l])) (.ref r) := by
  subst e1 e2
  have s1 : Same H (upd H p (.tup (fs.map V.int))) := same_new (Same.refl H) hp
  have s2 : Same (upd H p (.tup (fs.map V.int))) (upd (upd H p (.tup (fs.map V.int))) l (.lst (due.map V.int))) := same_new (Same.refl _) hl
  have s3 : Same (upd (upd H p (.tup (fs.map V.int))) l (.lst (due.map V.int))) (upd (upd (upd H p (.tup (fs.map V.int))) l (.lst (due.map V.int))) r (.tup [.ref p, .ref l])) := same_new (Same.refl _) hr
  exact ⟨(s1.trans s2).trans s3, r, p, l, fs, due, rfl, upd_same, (s2.trans s3) _ _ upd_same, s3 _ _ upd_same, hd⟩
section
variable {P : Program} {w : World} {K : PySem.W.Frag} {mg : Str → Option Value} {base : Heap}
abbrev s_law : Stmt := top 39
abbrev n_law : List Str := ["_law_script", "_law_cup_here", "_law_turn", "_law_rows", "_law_told", "_law_folds_here", "_law_due"]
abbrev p_law : List Str := ["_law_script"]
theorem sc_law : FnScope n_law p_law (defScope s_law) := ⟨rfl, rfl, rfl, by decide +kernel, rfl, by decide +kernel, by decide +kernel⟩
def sp_law (K : PySem.W.Frag) : Sp := fun vs H Q _ => ∃ (a : Addr) (ns : List Int), vs = [.ref a] ∧ SqL K H a (ns.map V.int) ∧ ns.length ≤ 63 ∧ ∀ H', Q (.bl true) H'
theorem ok_law {f : Addr} {fd : FuncData} (F : Fun K "law" "law" s_law f fd) (T : Bt mg) (C_law_cup : Df P w K mg base "_law_cup" 1 p_law_cup (sp_law_cup K)) (C_law_folds : Df P w K mg base "_law_folds" 3 p_law_folds sp_law_folds)
    (C_law_even_row : Df P w K mg base "_law_even_row" 3 p_law_even_row sp_law_even_row) (C_law_right : Df P w K mg base "_law_right" 6 p_law_right sp_law_right) (Cwashing_rings : Df P w K mg base "washing_rings" 5 p_washing_rings sp_washing_rings2)
    (Cwashing_power : Df P w K mg base "washing_power" 5 p_washing_power sp_washing_power) : FnOk P w K mg base CX0 7 f fd p_law (sp_law K) := by
  refine F.ok sc_law (fun vs H Q E h => ?_) (fun cdv A outer s H vs Q E hr h => ?_)
  · obtain ⟨a, ns, rfl, _⟩ := h
    rfl
  · obtain ⟨a, ns, rfl, ha, hn, k⟩ := h
    refine ⟨_, (pss_cons (ps_set (i := 1) sc_law.nd rfl (Or.inl rfl) (pe_df C_law_cup (hr.mono (by decide)) (by rfl) (pa_cons (pv 0) pa_nil)))
    (pss_cons (ps_for PassesOwn.never rfl (pi_range1 (by rfl) T.range (pa_cons pe_int pa_nil)) (pg_name (i := 2) sc_law.nd rfl (by first | exact Or.inl rfl | exact Or.inr rfl))
        (pss_one (ps_if (pt_not (pt_val (pe_df C_law_right (hr.mono (by decide)) (by rfl) (pa_cons (pe_ifExp (pt_cmpR op_gt (pv 2) pe_int (nomark _)) (pe_df C_law_even_row (hr.mono (by decide)) (by rfl) (pa_cons (pv 1) pa_nil)) (pe_df C_law_folds (hr.mono (by decide)) (by rfl) (pa_cons (pv 1) (pa_cons pe_int pa_nil)))) pa_nil)))) (pss_one (ps_ret pe_bl)) pss_nil)))
    (pss_cons (ps_set (i := 3) sc_law.nd rfl (Or.inl rfl) (pe_lst (pa_cons (pe_tup (pa_cons (pe_tup (pa_cons pe_int (pa_cons pe_int pa_nil))) (pa_cons (pe_lst (pa_cons pe_int (pa_cons pe_int (pa_cons pe_int (pa_cons pe_int (pa_cons pe_int (pa_cons pe_int pa_nil))))))) pa_nil))) (pa_cons (pe_tup (pa_cons (pe_tup (pa_cons pe_int pa_nil)) (pa_cons (pe_lst (pa_cons pe_int pa_nil)) pa_nil))) (pa_cons (pe_tup (pa_cons (pe_tup pa_nil) (pa_cons (pe_lst pa_nil) pa_nil))) (pa_cons (pe_tup (pa_cons (pe_tup (pa_cons pe_int pa_nil)) (pa_cons (pe_lst (pa_cons pe_int (pa_cons pe_int pa_nil))) pa_nil))) (pa_cons (pe_tup (pa_cons (pe_tup (pa_cons pe_int (pa_cons pe_int pa_nil))) (pa_cons (pe_lst (pa_cons pe_int (pa_cons pe_int (pa_cons pe_int pa_nil)))) pa_nil))) (pa_cons (pe_tup (pa_cons (pe_tup (pa_cons pe_int (pa_cons pe_int (pa_cons pe_int pa_nil)))) (pa_cons (pe_lst (pa_cons pe_int (pa_cons pe_int (pa_cons pe_int (pa_cons pe_int pa_nil))))) pa_nil))) (pa_cons (pe_tup (pa_cons (pe_tup (pa_cons pe_int (pa_cons pe_int pa_nil))) (pa_cons (pe_lst (pa_cons pe_int (pa_cons pe_int pa_nil))) pa_nil))) pa_nil)))))))))
    (pss_cons (ps_set (i := 3) sc_law.nd rfl (Or.inl rfl) (pe_op op_cat (pv 3) (pe_lst (pa_cons (pe_tup (pa_cons (pe_tup (pa_cons pe_int (pa_cons pe_int pa_nil))) (pa_cons (pe_lst (pa_cons pe_int (pa_cons pe_int (pa_cons pe_int pa_nil)))) pa_nil))) (pa_cons (pe_tup (pa_cons (pe_tup (pa_cons pe_int (pa_cons pe_int (pa_cons pe_int pa_nil)))) (pa_cons (pe_lst (pa_cons pe_int (pa_cons pe_int (pa_cons pe_int (pa_cons pe_int (pa_cons pe_int pa_nil)))))) pa_nil))) (pa_cons (pe_tup (pa_cons (pe_tup (pa_cons pe_int (pa_cons pe_int pa_nil))) (pa_cons (pe_lst (pa_cons pe_int (pa_cons pe_int (pa_cons pe_int (pa_cons pe_int (pa_cons pe_int pa_nil)))))) pa_nil))) (pa_cons (pe_tup (pa_cons (pe_tup (pa_cons pe_int (pa_cons pe_int (pa_cons pe_int pa_nil)))) (pa_cons (pe_lst (pa_cons pe_int (pa_cons pe_int (pa_cons pe_int (pa_cons pe_int (pa_cons pe_int (pa_cons pe_int (pa_cons pe_int (pa_cons pe_int pa_nil))))))))) pa_nil))) (pa_cons (pe_tup (pa_cons (pe_tup (pa_cons pe_int (pa_cons pe_int pa_nil))) (pa_cons (pe_lst (pa_cons pe_int (pa_cons pe_int (pa_cons pe_int (pa_cons pe_int (pa_cons pe_int (pa_cons pe_int (pa_cons pe_int pa_nil)))))))) pa_nil))) pa_nil))))))))
    (pss_cons (ps_for PassesOwn.never rfl (pi_list (pv 3)) (pg_tup (n := 2) rfl (pgs_cons (pg_name (i := 5) sc_law.nd rfl (by first | exact Or.inl rfl | exact Or.inr rfl)) (pgs_cons (pg_name (i := 6) sc_law.nd rfl (by first | exact Or.inl rfl | exact Or.inr rfl)) pgs_nil)))
        (pss_one (ps_if (pw_or (pt_cmpR (op_neD hr.units) (pe_df Cwashing_rings (hr.mono (by decide)) (by rfl) (pa_cons (pv 5) pa_nil)) (pv 6) (nomark _)) (pw_or1 (pt_not (pt_val (pe_df C_law_right (hr.mono (by decide)) (by rfl) (pa_cons (pv 5) pa_nil)))))).pt (pss_one (ps_ret pe_bl)) pss_nil)))
    (pss_cons (ps_if (pw_or (pt_cmp (pc_notN (pe_df Cwashing_rings (hr.mono (by decide)) (by rfl) (pa_cons (pe_tup (pa_cons pe_int (pa_cons pe_int pa_nil))) pa_nil)))) (pw_or (pt_cmp (pc_notN (pe_df Cwashing_rings (hr.mono (by decide)) (by rfl) (pa_cons (pe_tup (pa_cons pe_int (pa_cons pe_int (pa_cons pe_int pa_nil)))) pa_nil)))) (pw_or (pt_cmpR op_ne (pe_df Cwashing_power (hr.mono (by decide)) (by rfl) (pa_cons (pe_tup (pa_cons pe_int (pa_cons pe_int (pa_cons pe_int pa_nil)))) (pa_cons pe_int pa_nil))) pe_int (nomark _)) (pw_or1 (pt_cmpR op_ne (pe_df Cwashing_power (hr.mono (by decide)) (by rfl) (pa_cons (pe_tup (pa_cons pe_int (pa_cons pe_int (pa_cons pe_int pa_nil)))) (pa_cons pe_int pa_nil))) (pe_un un_neg pe_int) (nomark _)))))).pt (pss_one (ps_ret pe_bl)) pss_nil)
    (pss_cons (ps_if (pw_or (pt_cmpR op_ne (pe_df Cwashing_power (hr.mono (by decide)) (by rfl) (pa_cons (pe_tup pa_nil) (pa_cons pe_int pa_nil))) (pe_un un_neg pe_int) (nomark _)) (pw_or (pt_cmpR op_ne (pe_df Cwashing_power (hr.mono (by decide)) (by rfl) (pa_cons (pe_tup (pa_cons pe_int (pa_cons pe_int pa_nil))) (pa_cons pe_int pa_nil))) pe_int (nomark _)) (pw_or (pt_cmpR op_ne (pe_df Cwashing_power (hr.mono (by decide)) (by rfl) (pa_cons (pe_tup (pa_cons pe_int (pa_cons pe_int (pa_cons pe_int (pa_cons pe_int pa_nil))))) (pa_cons pe_int pa_nil))) pe_int (nomark _)) (pw_or1 (pt_cmp (pc_notN (pe_df Cwashing_power (hr.mono (by decide)) (by rfl) (pa_cons (pe_tup (pa_cons pe_int (pa_cons pe_int pa_nil))) (pa_cons pe_int pa_nil))))))))).pt (pss_one (ps_ret pe_bl)) pss_nil)
    (pss_cons (ps_set (i := 4) sc_law.nd rfl (Or.inl rfl) (pe_df Cwashing_rings (hr.mono (by decide)) (by rfl) (pa_cons (pe_tup (pa_cons (pe_un un_neg (pe_op op_pow pe_int pe_int)) (pa_cons (pe_op op_pow pe_int pe_int) pa_nil))) pa_nil)))
    (pss_one (ps_ret (pe_and (pe_cmpR op_eq (pe_callB call_len_seq (by rfl) T.len PySem.boot_len (pa_cons (pv 4) pa_nil)) pe_int (nomark _)) (pe_and (pe_cmpR op_eq (pe_ix ix_list (pv 4) (pe_un un_neg pe_int) (fun _ _ => rfl)) pe_int (nomark _)) (pe_one (pe_cmpR (op_eqD hr.units) (pe_slice sl_list (pv 4) po_none (po_some pe_int)) (pe_lst (pa_cons pe_int (pa_cons pe_int (pa_cons pe_int (pa_cons pe_int (pa_cons pe_int pa_nil)))))) (nomark _))))))))))))))), ?_⟩
    refine ⟨_, rfl, a, ns, rfl, ha, hn, fun c H1 hc0 s1 hc => ?_⟩
    refine ⟨4, rfl, by omega, by omega, for_range (lo := 0) (n := Int.toNat 4) (fun i σ H' => ∃ v2 : Option V, σ = [some (.ref a), some (.ref c), v2, none, none, none, none] ∧ CupAt H' c)
      ⟨none, rfl, hc⟩ ?_ ?_⟩
    · rintro i σ H2 hi ⟨v2, rfl, hc2⟩
      refine ⟨_, rfl, _, _, rfl, rfl, _, rfl, iteD (fun _ => ?_) (fun _ => ?_)⟩
      · refine ⟨_, rfl, c, rfl, hc2, fun p fs H3 _ hc3 ht d => ?_⟩
        exact ⟨p, fs, rfl, ht, d.okr, fun H4 s4 => ⟨_, rfl, _, rfl, hc3.same s4⟩⟩
      · refine ⟨_, rfl, c, rfl, hc2, fun p fs H3 _ hc3 ht d => ?_⟩
        exact ⟨p, fs, rfl, ht, d.okr, fun H4 s4 => ⟨_, rfl, _, rfl, hc3.same s4⟩⟩
    · rintro σ H2 ⟨v2, rfl, _⟩
      refine ⟨sz 2, fun p1 hp1 => ⟨sz 6, fun l1 hl1 => ⟨sz 2, fun r1 hr1 => ?_⟩⟩⟩
      obtain ⟨t1, g1⟩ := row_new hp1 hl1 hr1 [0, 12] [1, 2, 3, 4, 6, 12] rfl rfl (by decide)
      generalize upd (upd (upd H2 p1 _) l1 _) r1 _ = H3 at t1 g1 ⊢
      refine ⟨sz 1, fun p2 hp2 => ⟨sz 1, fun l2 hl2 => ⟨sz 2, fun r2 hr2 => ?_⟩⟩⟩
      obtain ⟨t2, g2⟩ := row_new hp2 hl2 hr2 [1] [1] rfl rfl (by decide)
      generalize upd (upd (upd H3 p2 _) l2 _) r2 _ = H4 at t2 g2 ⊢
      replace g1 := g1.same t2
      refine ⟨sz 0, fun p3 hp3 => ⟨sz 0, fun l3 hl3 => ⟨sz 2, fun r3 hr3 => ?_⟩⟩⟩
      obtain ⟨t3, g3⟩ := row_new hp3 hl3 hr3 [] [] rfl rfl (by decide)
      generalize upd (upd (upd H4 p3 _) l3 _) r3 _ = H5 at t3 g3 ⊢
      replace g1 := g1.same t3
      replace g2 := g2.same t3
      refine ⟨sz 1, fun p4 hp4 => ⟨sz 2, fun l4 hl4 => ⟨sz 2, fun r4 hr4 => ?_⟩⟩⟩
      obtain ⟨t4, g4⟩ := row_new hp4 hl4 hr4 [4] [1, 2] rfl rfl (by decide)
      generalize upd (upd (upd H5 p4 _) l4 _) r4 _ = H6 at t4 g4 ⊢
      replace g1 := g1.same t4
      replace g2 := g2.same t4
      replace g3 := g3.same t4
      refine ⟨sz 2, fun p5 hp5 => ⟨sz 3, fun l5 hl5 => ⟨sz 2, fun r5 hr5 => ?_⟩⟩⟩
      obtain ⟨t5, g5⟩ := row_new hp5 hl5 hr5 [0, 2] [1, 2, 4] rfl rfl (by decide)
      generalize upd (upd (upd H6 p5 _) l5 _) r5 _ = H7 at t5 g5 ⊢
      replace g1 := g1.same t5
      replace g2 := g2.same t5
      replace g3 := g3.same t5
      replace g4 := g4.same t5
      refine ⟨sz 3, fun p6 hp6 => ⟨sz 4, fun l6 hl6 => ⟨sz 2, fun r6 hr6 => ?_⟩⟩⟩
      obtain ⟨t6, g6⟩ := row_new hp6 hl6 hr6 [0, 2, 6] [1, 2, 4, 8] rfl rfl (by decide)
      generalize upd (upd (upd H7 p6 _) l6 _) r6 _ = H8 at t6 g6 ⊢
      replace g1 := g1.same t6
      replace g2 := g2.same t6
      replace g3 := g3.same t6
      replace g4 := g4.same t6
      replace g5 := g5.same t6
      refine ⟨sz 2, fun p7 hp7 => ⟨sz 2, fun l7 hl7 => ⟨sz 2, fun r7 hr7 => ?_⟩⟩⟩
      obtain ⟨t7, g7⟩ := row_new hp7 hl7 hr7 [1, 2] [1, 2] rfl rfl (by decide)
      generalize upd (upd (upd H8 p7 _) l7 _) r7 _ = H9 at t7 g7 ⊢
      replace g1 := g1.same t7
      replace g2 := g2.same t7
      replace g3 := g3.same t7
      replace g4 := g4.same t7
      replace g5 := g5.same t7
      replace g6 := g6.same t7
      refine ⟨sz 7, fun L1 hL1 => ?_⟩
      have u1 : Same H9 (upd H9 L1 (.lst [.ref r1, .ref r2, .ref r3, .ref r4, .ref r5, .ref r6, .ref r7])) := same_new (Same.refl _) hL1
      have e1 : upd H9 L1 (.lst [.ref r1, .ref r2, .ref r3, .ref r4, .ref r5, .ref r6, .ref r7]) L1 = some (.lst [.ref r1, .ref r2, .ref r3, .ref r4, .ref r5, .ref r6, .ref r7]) := upd_same
      generalize upd H9 L1 _ = H10 at u1 e1 ⊢
      replace g1 := g1.same u1
      replace g2 := g2.same u1
      replace g3 := g3.same u1
      replace g4 := g4.same u1
      replace g5 := g5.same u1
      replace g6 := g6.same u1
      replace g7 := g7.same u1
      refine ⟨_, rfl, ?_⟩
      refine ⟨sz 2, fun p8 hp8 => ⟨sz 3, fun l8 hl8 => ⟨sz 2, fun r8 hr8 => ?_⟩⟩⟩
      obtain ⟨t8, g8⟩ := row_new hp8 hl8 hr8 [1, 4] [1, 2, 3] rfl rfl (by decide)
      generalize upd (upd (upd H10 p8 _) l8 _) r8 _ = H11 at t8 g8 ⊢
      replace g1 := g1.same t8
      replace g2 := g2.same t8
      replace g3 := g3.same t8
      replace g4 := g4.same t8
      replace g5 := g5.same t8
      replace g6 := g6.same t8
      replace g7 := g7.same t8
      replace e1 := t8 _ _ e1
      refine ⟨sz 3, fun p9 hp9 => ⟨sz 5, fun l9 hl9 => ⟨sz 2, fun r9 hr9 => ?_⟩⟩⟩
      obtain ⟨t9, g9⟩ := row_new hp9 hl9 hr9 [0, 3, 6] [1, 2, 3, 4, 6] rfl rfl (by decide)
      generalize upd (upd (upd H11 p9 _) l9 _) r9 _ = H12 at t9 g9 ⊢
      replace g1 := g1.same t9
      replace g2 := g2.same t9
      replace g3 := g3.same t9
      replace g4 := g4.same t9
      replace g5 := g5.same t9
      replace g6 := g6.same t9
      replace g7 := g7.same t9
      replace g8 := g8.same t9
      replace e1 := t9 _ _ e1
      refine ⟨sz 2, fun p10 hp10 => ⟨sz 5, fun l10 hl10 => ⟨sz 2, fun r10 hr10 => ?_⟩⟩⟩
      obtain ⟨t10, g10⟩ := row_new hp10 hl10 hr10 [0, 15] [1, 2, 3, 5, 15] rfl rfl (by decide)
      generalize upd (upd (upd H12 p10 _) l10 _) r10 _ = H13 at t10 g10 ⊢
      replace g1 := g1.same t10
      replace g2 := g2.same t10
      replace g3 := g3.same t10
      replace g4 := g4.same t10
      replace g5 := g5.same t10
      replace g6 := g6.same t10
      replace g7 := g7.same t10
      replace g8 := g8.same t10
      replace g9 := g9.same t10
      replace e1 := t10 _ _ e1
      refine ⟨sz 3, fun p11 hp11 => ⟨sz 8, fun l11 hl11 => ⟨sz 2, fun r11 hr11 => ?_⟩⟩⟩
      obtain ⟨t11, g11⟩ := row_new hp11 hl11 hr11 [0, 9, 24] [1, 2, 3, 4, 5, 6, 9, 15] rfl rfl (by decide)
      generalize upd (upd (upd H13 p11 _) l11 _) r11 _ = H14 at t11 g11 ⊢
      replace g1 := g1.same t11
      replace g2 := g2.same t11
      replace g3 := g3.same t11
      replace g4 := g4.same t11
      replace g5 := g5.same t11
      replace g6 := g6.same t11
      replace g7 := g7.same t11
      replace g8 := g8.same t11
      replace g9 := g9.same t11
      replace g10 := g10.same t11
      replace e1 := t11 _ _ e1
      refine ⟨sz 2, fun p12 hp12 => ⟨sz 7, fun l12 hl12 => ⟨sz 2, fun r12 hr12 => ?_⟩⟩⟩
      obtain ⟨t12, g12⟩ := row_new hp12 hl12 hr12 [0, 64] [1, 2, 4, 8, 16, 32, 64] rfl rfl (by decide)
      generalize upd (upd (upd H14 p12 _) l12 _) r12 _ = H15 at t12 g12 ⊢
      replace g1 := g1.same t12
      replace g2 := g2.same t12
      replace g3 := g3.same t12
      replace g4 := g4.same t12
      replace g5 := g5.same t12
      replace g6 := g6.same t12
      replace g7 := g7.same t12
      replace g8 := g8.same t12
      replace g9 := g9.same t12
      replace g10 := g10.same t12
      replace g11 := g11.same t12
      replace e1 := t12 _ _ e1
      refine ⟨sz 5, fun L2 hL2 => ?_⟩
      have u2 : Same H15 (upd H15 L2 (.lst [.ref r8, .ref r9, .ref r10, .ref r11, .ref r12])) := same_new (Same.refl _) hL2
      have e2 : upd H15 L2 (.lst [.ref r8, .ref r9, .ref r10, .ref r11, .ref r12]) L2 = some (.lst [.ref r8, .ref r9, .ref r10, .ref r11, .ref r12]) := upd_same
      generalize upd H15 L2 _ = H16 at u2 e2 ⊢
      refine ⟨L1, L2, _, _, rfl, rfl, u2 _ _ e1, e2, sz 12, fun L hL => ?_⟩
      have u3 : Same H16 (upd H16 L (.lst [.ref r1, .ref r2, .ref r3, .ref r4, .ref r5, .ref r6, .ref r7, .ref r8, .ref r9, .ref r10, .ref r11, .ref r12])) := same_new (Same.refl _) hL
      replace g1 := (g1.same u2).same u3
      replace g2 := (g2.same u2).same u3
      replace g3 := (g3.same u2).same u3
      replace g4 := (g4.same u2).same u3
      replace g5 := (g5.same u2).same u3
      replace g6 := (g6.same u2).same u3
      replace g7 := (g7.same u2).same u3
      replace g8 := (g8.same u2).same u3
      replace g9 := (g9.same u2).same u3
      replace g10 := (g10.same u2).same u3
      replace g11 := (g11.same u2).same u3
      replace g12 := (g12.same u2).same u3
      have e3 : upd H16 L (.lst [.ref r1, .ref r2, .ref r3, .ref r4, .ref r5, .ref r6, .ref r7, .ref r8, .ref r9, .ref r10, .ref r11, .ref r12]) L = some (.lst [.ref r1, .ref r2, .ref r3, .ref r4, .ref r5, .ref r6, .ref r7, .ref r8, .ref r9, .ref r10, .ref r11, .ref r12]) := upd_same
      have hall : ∀ v ∈ ([.ref r1, .ref r2, .ref r3, .ref r4, .ref r5, .ref r6, .ref r7, .ref r8, .ref r9, .ref r10, .ref r11, .ref r12] : List V), RowAt (upd H16 L (.lst [.ref r1, .ref r2, .ref r3, .ref r4, .ref r5, .ref r6, .ref r7, .ref r8, .ref r9, .ref r10, .ref r11, .ref r12])) v := by
        simp only [List.forall_mem_cons]
        exact ⟨g1, g2, g3, g4, g5, g6, g7, g8, g9, g10, g11, g12, fun _ h => absurd h List.not_mem_nil⟩
      refine ⟨_, rfl, L, rfl, ⟨_, SqL.of e3⟩, for_list (K := K) (a := L) (xs := [.ref r1, .ref r2, .ref r3, .ref r4, .ref r5, .ref r6, .ref r7, .ref r8, .ref r9, .ref r10, .ref r11, .ref r12]) (fun i σ H' => ∃ v2 v5 v6 : Option V, σ = [some (.ref a), some (.ref c), v2, some (.ref L), none, v5, v6] ∧ H' L = some (.lst [.ref r1, .ref r2, .ref r3, .ref r4, .ref r5, .ref r6, .ref r7, .ref r8, .ref r9, .ref r10, .ref r11, .ref r12]) ∧ ∀ v ∈ ([.ref r1, .ref r2, .ref r3, .ref r4, .ref r5, .ref r6, .ref r7, .ref r8, .ref r9, .ref r10, .ref r11, .ref r12] : List V), RowAt H' v)
        ⟨v2, none, none, rfl, e3, hall⟩ (fun i σ H' _ ⟨_, _, _, _, g, _⟩ => SqL.of g) ?_ ?_⟩
      · rintro i x σ H' hx ⟨w2, w5, w6, rfl, g, hr⟩
        obtain ⟨r, p, l, fs, due, rfl, h1, h2, h3, h4⟩ := hr x (List.mem_of_getElem? hx)
        obtain ⟨hd, hs5, hd6⟩ := rows_due _ h4
        refine ⟨r, _, rfl, SqT.of h1, rfl, _, _, rfl, _, _, rfl, rfl, _, rfl, p, fs, rfl, h2, hd.1, .inr ⟨hd.fine, fun q H5 hq s5 hL5 => ?_⟩⟩
        refine ⟨_, rfl, neL_ok hL5.sq (h3.same s5).sq ⟨_, rfl, iteN (fun c => absurd hd.2.2 c) (fun _ => ?_)⟩⟩
        refine ⟨_, rfl, p, fs, rfl, h2.same s5, hd.okr hs5 hd6, fun H6 s6 => ⟨_, rfl, w2, _, _, rfl, s6 _ _ (s5 _ _ g), fun v hv => ((hr v hv).same s5).same s6⟩⟩
      · rintro σ H' ⟨w2, w5, w6, rfl, -, -⟩
        refine ⟨sz 2, fun q1 _ => ⟨q1, [4, 4], rfl, upd_same, rows_none.1.1, .inl ⟨rows_none.1.2, fun J1 _ => ⟨_, rfl, ?_⟩⟩⟩⟩
        refine iteN (fun c => absurd rfl c) (fun _ => ?_)
        refine ⟨sz 3, fun q2 _ => ⟨q2, [0, 0, 5], rfl, upd_same, rows_none.2.1.1, .inl ⟨rows_none.2.1.2, fun J2 _ => ⟨_, rfl, ?_⟩⟩⟩⟩
        refine iteN (fun c => absurd rfl c) (fun _ => ?_)
        refine ⟨sz 3, fun q3 _ => ⟨q3, [0, 12, 6], 3, rfl, upd_same, rows_row.1, by decide, by decide, by decide, fun J3 _ => ?_⟩⟩
        rw [wp1]
        refine ⟨rfl, _, rfl, iteN (fun c => absurd rfl c) (fun _ => ?_)⟩
        refine ⟨sz 3, fun q4 _ => ⟨q4, [0, 12, 6], 5, rfl, upd_same, rows_row.1, by decide, by decide, by decide, fun J4 _ => ?_⟩⟩
        rw [wp2]
        refine ⟨_, rfl, rfl, _, rfl, iteN (fun c => absurd rfl c) (fun _ => ?_)⟩
        refine ⟨sz 0, fun q5 _ => ⟨q5, [], 3, rfl, upd_same, rows_row.2.1, by decide, by decide, by decide, fun J5 _ => ?_⟩⟩
        rw [wp3]
        refine ⟨_, rfl, rfl, _, rfl, iteN (fun c => absurd rfl c) (fun _ => ?_)⟩
        refine ⟨sz 2, fun q6 _ => ⟨q6, [0, 999999], 999999, rfl, upd_same, rows_row.2.2.1, by decide, by decide, by decide, fun J6 _ => ?_⟩⟩
        rw [wp4]
        refine ⟨rfl, _, rfl, iteN (fun c => absurd rfl c) (fun _ => ?_)⟩
        refine ⟨sz 4, fun q7 _ => ⟨q7, [0, 96, 0, 96], 3, rfl, upd_same, rows_row.2.2.2, by decide, by decide, by decide, fun J7 _ => ?_⟩⟩
        rw [wp5]
        refine ⟨rfl, _, rfl, iteN (fun c => absurd rfl c) (fun _ => ?_)⟩
        refine ⟨sz 2, fun q8 _ => ⟨q8, [0, 0], 3, rfl, upd_same, rows_none.2.2.1, by decide, by decide, by decide, fun J8 _ => ?_⟩⟩
        rw [wp6]
        refine ⟨_, rfl, iteN (fun c => absurd rfl c) (fun _ => ?_)⟩
        have ep : ((10 : Int) ^ Int.toNat 6) = 1000000 := by decide
        refine ⟨_, _, rfl, rfl, ⟨by decide, by decide, by decide⟩, _, rfl, _, _, rfl, rfl, ⟨by decide, by decide, by decide⟩, sz 2, fun q9 _ => ⟨q9, [-(10 ^ Int.toNat 6), 10 ^ Int.toNat 6], rfl, upd_same, ?_⟩⟩
        rw [ep]
        refine ⟨last_due.1, .inr ⟨last_due.fine, fun p H9 _ _ hL9 => ?_⟩⟩
        replace hL9 : LstAt H9 p lastL := hL9
        refine ⟨_, rfl, p, lastL.map V.int, rfl, .inl hL9.sq, rfl, _, rfl, iteD (fun _ => ?_) (fun c => absurd (by rw [List.length_map, last_len]; rfl) c)⟩
        refine ⟨_, rfl, _, rfl, p, lastL.map V.int, -1, .int 2000000, rfl, rfl, hL9.sq, last_end, rfl, _, rfl, iteD (fun _ => ?_) (fun c => absurd rfl c)⟩
        refine ⟨_, rfl, _, rfl, p, lastL.map V.int, rfl, hL9.sq, fun q10 h10 => ?_⟩
        rw [last_cut]
        refine ⟨sz 5, fun q11 h11 => ?_⟩
        refine eqL_ok (fs := [1, 2, 4, 5, 8]) (gs := [1, 2, 4, 5, 8]) ((same_new (Same.refl _) h11).seq (SqL.of upd_same)) (SqL.of upd_same) ?_
        exact k _
end
end Wet

end
section
set_option maxRecDepth 100000
namespace Wet
open PySem L2
/-! ## What the top has written, and the law's own head -/
theorem all_mk {l : PySem.W.OpenLaw} {w : World} {K : PySem.W.Frag} {h : Heap} {mg : Str → Option Value} {fa f1 f2 f3 f4 f5 f6 f7 f8 f9 f10 f11 f12 f13 f14 f15 f16 f17 f18 f19 f20 f21 f22 f23 f24 f25 f26 f27 : Addr} (X : K.In h) (G : h.Ns mainGlobals mg) (hfa : mg "law" = some (.ref fa))
    {od1 an1 od2 an2 od3 an3 od4 an4 od5 an5 od6 an6 od7 an7 od8 an8 od9 an9 od10 an10 od11 an11 od12 an12 od13 an13 od14 an14 od15 an15 od16 an16 od17 an17 od18 an18 od19 an19 od20 an20 od21 an21 od22 an22 od23 an23 od24 an24 od25 an25 od26 an26 od27 an27 : Option Addr} {sl1 sl2 sl3 sl4 sl5 sl6 sl7 sl8 sl9 sl10 sl11 sl12 sl13 sl14 sl15 sl16 sl17 sl18 sl19 sl20 sl21 sl22 sl23 sl24 sl25 sl26 sl27 : Array (Option Value)} {oc1 kV1 dc1 pm1 cd1 ct1 oc2 kV2 dc2 pm2 cd2 ct2 oc3 kV3 dc3 pm3 cd3 ct3 oc4 kV4 dc4 pm4 cd4 ct4 oc5 kV5 dc5 pm5 cd5 ct5 oc6 kV6 dc6 pm6 cd6 ct6 oc7 kV7 dc7 pm7 cd7 ct7 oc8 kV8 dc8 pm8 cd8 ct8 oc9 kV9 dc9 pm9 cd9 ct9 oc10 kV10 dc10 pm10 cd10 ct10 oc11 kV11 dc11 pm11 cd11 ct11 oc12 kV12 dc12 pm12 cd12 ct12 oc13 kV13 dc13 pm13 cd13 ct13 oc14 kV14 dc14 pm14 cd14 ct14 oc15 kV15 dc15 pm15 cd15 ct15 oc16 kV16 dc16 pm16 cd16 ct16 oc17 kV17 dc17 pm17 cd17 ct17 oc18 kV18 dc18 pm18 cd18 ct18 oc19 kV19 dc19 pm19 cd19 ct19 oc20 kV20 dc20 pm20 cd20 ct20 oc21 kV21 dc21 pm21 cd21 ct21 oc22 kV22 dc22 pm22 cd22 ct22 oc23 kV23 dc23 pm23 cd23 ct23 oc24 kV24 dc24 pm24 cd24 ct24 oc25 kV25 dc25 pm25 cd25 ct25 oc26 kV26 dc26 pm26 cd26 ct26 oc27 kV27 dc27 pm27 cd27 ct27 : Value} {t1 t2 t3 : Tok}
    (a1 : PySem.W.nsIn K mainGlobals "is_whole" = some (some (.ref f1))) (l1 : K.lookup f1 = some ⟨oc1, od1, .func (PySem.W.fnOf "is_whole" "is_whole" (defArgs s_is_whole) (defBody s_is_whole) (defScope s_is_whole) .none kV1 dc1 pm1 an1 cd1 ct1), sl1⟩) (c1 : PySem.W.codeIn K cd1 "is_whole" = true) (k1 : PySem.W.keepIn K (.ref f1) = true)
    (a2 : PySem.W.nsIn K mainGlobals "is_tuple_of" = some (some (.ref f2))) (l2 : K.lookup f2 = some ⟨oc2, od2, .func (PySem.W.fnOf "is_tuple_of" "is_tuple_of" (defArgs s_is_tuple_of) (defBody s_is_tuple_of) (defScope s_is_tuple_of) .none kV2 dc2 pm2 an2 cd2 ct2), sl2⟩) (c2 : PySem.W.codeIn K cd2 "is_tuple_of" = true) (k2 : PySem.W.keepIn K (.ref f2) = true)
    (a3 : PySem.W.nsIn K mainGlobals "fits_crease" = some (some (.ref f3))) (l3 : K.lookup f3 = some ⟨oc3, od3, .func (PySem.W.fnOf "fits_crease" "fits_crease" (defArgs s_fits_crease) (defBody s_fits_crease) (defScope s_fits_crease) .none kV3 dc3 pm3 an3 cd3 ct3), sl3⟩) (c3 : PySem.W.codeIn K cd3 "fits_crease" = true) (k3 : PySem.W.keepIn K (.ref f3) = true)
    (a4 : PySem.W.nsIn K mainGlobals "fits_folds" = some (some (.ref f4))) (l4 : K.lookup f4 = some ⟨oc4, od4, .func (PySem.W.fnOf "fits_folds" "fits_folds" (defArgs s_fits_folds) (defBody s_fits_folds) (defScope s_fits_folds) .none kV4 dc4 pm4 an4 cd4 ct4), sl4⟩) (c4 : PySem.W.codeIn K cd4 "fits_folds" = true) (k4 : PySem.W.keepIn K (.ref f4) = true)
    (a5 : PySem.W.nsIn K mainGlobals "need_folds" = some (some (.ref f5))) (l5 : K.lookup f5 = some ⟨oc5, od5, .func (PySem.W.fnOf "need_folds" "need_folds" (defArgs s_need_folds) (defBody s_need_folds) (defScope s_need_folds) .none kV5 dc5 pm5 an5 cd5 ct5), sl5⟩) (c5 : PySem.W.codeIn K cd5 "need_folds" = true) (k5 : PySem.W.keepIn K (.ref f5) = true)
    (a6 : PySem.W.nsIn K mainGlobals "steps_in" = some (some (.ref f6))) (l6 : K.lookup f6 = some ⟨oc6, od6, .func (PySem.W.fnOf "steps_in" "steps_in" (defArgs s_steps_in) (defBody s_steps_in) (defScope s_steps_in) .none kV6 dc6 pm6 an6 cd6 ct6), sl6⟩) (c6 : PySem.W.codeIn K cd6 "steps_in" = true) (k6 : PySem.W.keepIn K (.ref f6) = true)
    (a7 : PySem.W.nsIn K mainGlobals "need_size" = some (some (.ref f7))) (l7 : K.lookup f7 = some ⟨oc7, od7, .func (PySem.W.fnOf "need_size" "need_size" (defArgs s_need_size) (defBody s_need_size) (defScope s_need_size) .none kV7 dc7 pm7 an7 cd7 ct7), sl7⟩) (c7 : PySem.W.codeIn K cd7 "need_size" = true) (k7 : PySem.W.keepIn K (.ref f7) = true)
    (a8 : PySem.W.nsIn K mainGlobals "twos_of" = some (some (.ref f8))) (l8 : K.lookup f8 = some ⟨oc8, od8, .func (PySem.W.fnOf "twos_of" "twos_of" (defArgs s_twos_of) (defBody s_twos_of) (defScope s_twos_of) .none kV8 dc8 pm8 an8 cd8 ct8), sl8⟩) (c8 : PySem.W.codeIn K cd8 "twos_of" = true) (k8 : PySem.W.keepIn K (.ref f8) = true)
    (a9 : PySem.W.nsIn K mainGlobals "odd_parts" = some (some (.ref f9))) (l9 : K.lookup f9 = some ⟨oc9, od9, .func (PySem.W.fnOf "odd_parts" "odd_parts" (defArgs s_odd_parts) (defBody s_odd_parts) (defScope s_odd_parts) .none kV9 dc9 pm9 an9 cd9 ct9), sl9⟩) (c9 : PySem.W.codeIn K cd9 "odd_parts" = true) (k9 : PySem.W.keepIn K (.ref f9) = true)
    (a10 : PySem.W.nsIn K mainGlobals "weight_of" = some (some (.ref f10))) (l10 : K.lookup f10 = some ⟨oc10, od10, .func (PySem.W.fnOf "weight_of" "weight_of" (defArgs s_weight_of) (defBody s_weight_of) (defScope s_weight_of) .none kV10 dc10 pm10 an10 cd10 ct10), sl10⟩) (c10 : PySem.W.codeIn K cd10 "weight_of" = true) (k10 : PySem.W.keepIn K (.ref f10) = true)
    (a11 : PySem.W.nsIn K mainGlobals "power_within" = some (some (.ref f11))) (l11 : K.lookup f11 = some ⟨oc11, od11, .func (PySem.W.fnOf "power_within" "power_within" (defArgs s_power_within) (defBody s_power_within) (defScope s_power_within) .none kV11 dc11 pm11 an11 cd11 ct11), sl11⟩) (c11 : PySem.W.codeIn K cd11 "power_within" = true) (k11 : PySem.W.keepIn K (.ref f11) = true)
    (a12 : PySem.W.nsIn K mainGlobals "doubled_up" = some (some (.ref f12))) (l12 : K.lookup f12 = some ⟨oc12, od12, .func (PySem.W.fnOf "doubled_up" "doubled_up" (defArgs s_doubled_up) (defBody s_doubled_up) (defScope s_doubled_up) .none kV12 dc12 pm12 an12 cd12 ct12), sl12⟩) (c12 : PySem.W.codeIn K cd12 "doubled_up" = true) (k12 : PySem.W.keepIn K (.ref f12) = true)
    (a13 : PySem.W.nsIn K mainGlobals "is_washed" = some (some (.ref f13))) (l13 : K.lookup f13 = some ⟨oc13, od13, .func (PySem.W.fnOf "is_washed" "is_washed" (defArgs s_is_washed) (defBody s_is_washed) (defScope s_is_washed) .none kV13 dc13 pm13 an13 cd13 ct13), sl13⟩) (c13 : PySem.W.codeIn K cd13 "is_washed" = true) (k13 : PySem.W.keepIn K (.ref f13) = true)
    (a14 : PySem.W.nsIn K mainGlobals "sizes_washed" = some (some (.ref f14))) (l14 : K.lookup f14 = some ⟨oc14, od14, .func (PySem.W.fnOf "sizes_washed" "sizes_washed" (defArgs s_sizes_washed) (defBody s_sizes_washed) (defScope s_sizes_washed) .none kV14 dc14 pm14 an14 cd14 ct14), sl14⟩) (c14 : PySem.W.codeIn K cd14 "sizes_washed" = true) (k14 : PySem.W.keepIn K (.ref f14) = true)
    (a15 : PySem.W.nsIn K mainGlobals "ring_washes" = some (some (.ref f15))) (l15 : K.lookup f15 = some ⟨oc15, od15, .func (PySem.W.fnOf "ring_washes" "ring_washes" (defArgs s_ring_washes) (defBody s_ring_washes) (defScope s_ring_washes) .none kV15 dc15 pm15 an15 cd15 ct15), sl15⟩) (c15 : PySem.W.codeIn K cd15 "ring_washes" = true) (k15 : PySem.W.keepIn K (.ref f15) = true)
    (a16 : PySem.W.nsIn K mainGlobals "washing_rings" = some (some (.ref f16))) (l16 : K.lookup f16 = some ⟨oc16, od16, .func (PySem.W.fnOf "washing_rings" "washing_rings" (defArgs s_washing_rings) (defBody s_washing_rings) (defScope s_washing_rings) .none kV16 dc16 pm16 an16 cd16 ct16), sl16⟩) (c16 : PySem.W.codeIn K cd16 "washing_rings" = true) (k16 : PySem.W.keepIn K (.ref f16) = true)
    (a17 : PySem.W.nsIn K mainGlobals "washing_power" = some (some (.ref f17))) (l17 : K.lookup f17 = some ⟨oc17, od17, .func (PySem.W.fnOf "washing_power" "washing_power" (defArgs s_washing_power) (defBody s_washing_power) (defScope s_washing_power) .none kV17 dc17 pm17 an17 cd17 ct17), sl17⟩) (c17 : PySem.W.codeIn K cd17 "washing_power" = true) (k17 : PySem.W.keepIn K (.ref f17) = true)
    (a18 : PySem.W.nsIn K mainGlobals "_law_cup" = some (some (.ref f18))) (l18 : K.lookup f18 = some ⟨oc18, od18, .func (PySem.W.fnOf "_law_cup" "_law_cup" (defArgs s_law_cup) (defBody s_law_cup) (defScope s_law_cup) .none kV18 dc18 pm18 an18 cd18 ct18), sl18⟩) (c18 : PySem.W.codeIn K cd18 "_law_cup" = true) (k18 : PySem.W.keepIn K (.ref f18) = true)
    (a19 : PySem.W.nsIn K mainGlobals "_law_roll" = some (some (.ref f19))) (l19 : K.lookup f19 = some ⟨oc19, od19, .func (PySem.W.fnOf "_law_roll" "_law_roll" (defArgs s_law_roll) (defBody s_law_roll) (defScope s_law_roll) .none kV19 dc19 pm19 an19 cd19 ct19), sl19⟩) (c19 : PySem.W.codeIn K cd19 "_law_roll" = true) (k19 : PySem.W.keepIn K (.ref f19) = true)
    (a20 : PySem.W.nsIn K mainGlobals "_law_some" = some (some (.ref f20))) (l20 : K.lookup f20 = some ⟨oc20, od20, .func (PySem.W.fnOf "_law_some" "_law_some" (defArgs s_law_some) (defBody s_law_some) (defScope s_law_some) .none kV20 dc20 pm20 an20 cd20 ct20), sl20⟩) (c20 : PySem.W.codeIn K cd20 "_law_some" = true) (k20 : PySem.W.keepIn K (.ref f20) = true)
    (a21 : PySem.W.nsIn K mainGlobals "_law_folds" = some (some (.ref f21))) (l21 : K.lookup f21 = some ⟨oc21, od21, .func (PySem.W.fnOf "_law_folds" "_law_folds" (defArgs s_law_folds) (defBody s_law_folds) (defScope s_law_folds) .none kV21 dc21 pm21 an21 cd21 ct21), sl21⟩) (c21 : PySem.W.codeIn K cd21 "_law_folds" = true) (k21 : PySem.W.keepIn K (.ref f21) = true)
    (a22 : PySem.W.nsIn K mainGlobals "_law_steps" = some (some (.ref f22))) (l22 : K.lookup f22 = some ⟨oc22, od22, .func (PySem.W.fnOf "_law_steps" "_law_steps" (defArgs s_law_steps) (defBody s_law_steps) (defScope s_law_steps) .none kV22 dc22 pm22 an22 cd22 ct22), sl22⟩) (c22 : PySem.W.codeIn K cd22 "_law_steps" = true) (k22 : PySem.W.keepIn K (.ref f22) = true)
    (a23 : PySem.W.nsIn K mainGlobals "_law_times" = some (some (.ref f23))) (l23 : K.lookup f23 = some ⟨oc23, od23, .func (PySem.W.fnOf "_law_times" "_law_times" (defArgs s_law_times) (defBody s_law_times) (defScope s_law_times) .none kV23 dc23 pm23 an23 cd23 ct23), sl23⟩) (c23 : PySem.W.codeIn K cd23 "_law_times" = true) (k23 : PySem.W.keepIn K (.ref f23) = true)
    (a24 : PySem.W.nsIn K mainGlobals "_law_washed_by_steps" = some (some (.ref f24))) (l24 : K.lookup f24 = some ⟨oc24, od24, .func (PySem.W.fnOf "_law_washed_by_steps" "_law_washed_by_steps" (defArgs s_law_washed_by_steps) (defBody s_law_washed_by_steps) (defScope s_law_washed_by_steps) .none kV24 dc24 pm24 an24 cd24 ct24), sl24⟩) (c24 : PySem.W.codeIn K cd24 "_law_washed_by_steps" = true) (k24 : PySem.W.keepIn K (.ref f24) = true)
    (a25 : PySem.W.nsIn K mainGlobals "_law_even_row" = some (some (.ref f25))) (l25 : K.lookup f25 = some ⟨oc25, od25, .func (PySem.W.fnOf "_law_even_row" "_law_even_row" (defArgs s_law_even_row) (defBody s_law_even_row) (defScope s_law_even_row) .none kV25 dc25 pm25 an25 cd25 ct25), sl25⟩) (c25 : PySem.W.codeIn K cd25 "_law_even_row" = true) (k25 : PySem.W.keepIn K (.ref f25) = true)
    (a26 : PySem.W.nsIn K mainGlobals "_law_right" = some (some (.ref f26))) (l26 : K.lookup f26 = some ⟨oc26, od26, .func (PySem.W.fnOf "_law_right" "_law_right" (defArgs s_law_right) (defBody s_law_right) (defScope s_law_right) .none kV26 dc26 pm26 an26 cd26 ct26), sl26⟩) (c26 : PySem.W.codeIn K cd26 "_law_right" = true) (k26 : PySem.W.keepIn K (.ref f26) = true)
    (a27 : PySem.W.nsIn K mainGlobals "law" = some (some (.ref f27))) (l27 : K.lookup f27 = some ⟨oc27, od27, .func (PySem.W.fnOf "law" "law" (defArgs s_law) (defBody s_law) (defScope s_law) .none kV27 dc27 pm27 an27 cd27 ct27), sl27⟩) (c27 : PySem.W.codeIn K cd27 "law" = true) (k27 : PySem.W.keepIn K (.ref f27) = true)
    (z1 : PySem.W.nsIn K mainGlobals "isinstance" = some none) (z2 : PySem.W.nsIn K mainGlobals "bool" = some none) (z3 : PySem.W.nsIn K mainGlobals "int" = some none) (z4 : PySem.W.nsIn K mainGlobals "tuple" = some none) (z5 : PySem.W.nsIn K mainGlobals "list" = some none) (z6 : PySem.W.nsIn K mainGlobals "len" = some none) (z7 : PySem.W.nsIn K mainGlobals "all" = some none) (z8 : PySem.W.nsIn K mainGlobals "abs" = some none) (z9 : PySem.W.nsIn K mainGlobals "zip" = some none) (z10 : PySem.W.nsIn K mainGlobals "sorted" = some none) (z11 : PySem.W.nsIn K mainGlobals "set" = some none) (z12 : PySem.W.nsIn K mainGlobals "sum" = some none) (z13 : PySem.W.nsIn K mainGlobals "dict" = some none) (z14 : PySem.W.nsIn K mainGlobals "range" = some none) (z15 : PySem.W.nsIn K mainGlobals "min" = some none) (z16 : PySem.W.nsIn K mainGlobals "max" = some none)
    (q1 : PySem.W.nsIn K mainGlobals "CREASE" = some (some (.int 1000000 t1))) (q2 : PySem.W.nsIn K mainGlobals "FOLDS" = some (some (.int 12 t2))) (q3 : PySem.W.nsIn K mainGlobals "LARGEST" = some (some (.int 1000000 t3))) :
    ∃ fd : FuncData, (∀ (s : Shared) (v : Value), BindsTo s fd ⟨[v], []⟩ [("_law_script", v)]) ∧ ∀ base : Heap, K.In base → base.Ns mainGlobals mg → FnOk l.prog w K mg base CX0 7 fa fd ["_law_script"] (sp_law K) := by
  have e := hfa.symm.trans (PySem.W.mg_of X G a27)
  cases e
  have T : Bt mg := ⟨PySem.W.mg_none_of X G z1, PySem.W.mg_none_of X G z2, PySem.W.mg_none_of X G z3, PySem.W.mg_none_of X G z4, PySem.W.mg_none_of X G z5, PySem.W.mg_none_of X G z6, PySem.W.mg_none_of X G z7, PySem.W.mg_none_of X G z8, PySem.W.mg_none_of X G z9, PySem.W.mg_none_of X G z10, PySem.W.mg_none_of X G z11, PySem.W.mg_none_of X G z12, PySem.W.mg_none_of X G z13, PySem.W.mg_none_of X G z14, PySem.W.mg_none_of X G z15, PySem.W.mg_none_of X G z16, ⟨_, PySem.W.mg_of X G q1⟩, ⟨_, PySem.W.mg_of X G q2⟩, ⟨_, PySem.W.mg_of X G q3⟩⟩
  refine ⟨PySem.W.fnOf "law" "law" (defArgs s_law) (defBody s_law) (defScope s_law) .none kV27 dc27 pm27 an27 cd27 ct27, fun s v => .of_eq rfl, fun base _ _ => ?_⟩
  have F1 := fun_mk (x := "is_whole") (qual := "is_whole") (st := s_is_whole) l1 c1 k1
  have Dis_whole := Df.mk' (ok_is_whole (P := l.prog) (w := w) (mg := mg) (base := base) F1 T) (PySem.W.mg_of X G a1) k1 (F1.binds (ps := p_is_whole) fun _ _ _ _ _ _ us hl => match us, hl with | [_, _, _], _ => rfl)
  have F2 := fun_mk (x := "is_tuple_of") (qual := "is_tuple_of") (st := s_is_tuple_of) l2 c2 k2
  have Dis_tuple_of := Df.mk' (ok_is_tuple_of (P := l.prog) (w := w) (mg := mg) (base := base) F2 T) (PySem.W.mg_of X G a2) k2 (F2.binds (ps := p_is_tuple_of) fun _ _ _ _ _ _ us hl => match us, hl with | [_, _, _], _ => rfl)
  have F3 := fun_mk (x := "fits_crease") (qual := "fits_crease") (st := s_fits_crease) l3 c3 k3
  have Dfits_crease := Df.mk' (ok_fits_crease (P := l.prog) (w := w) (mg := mg) (base := base) F3 T Dis_whole) (PySem.W.mg_of X G a3) k3 (F3.binds (ps := p_fits_crease) fun _ _ _ _ _ _ us hl => match us, hl with | [_], _ => rfl)
  have F4 := fun_mk (x := "fits_folds") (qual := "fits_folds") (st := s_fits_folds) l4 c4 k4
  have Dfits_folds := Df.mk' (ok_fits_folds (P := l.prog) (w := w) (mg := mg) (base := base) F4 T Dis_tuple_of Dfits_crease) (PySem.W.mg_of X G a4) k4 (F4.binds (ps := p_fits_folds) fun _ _ _ _ _ _ us hl => match us, hl with | [_], _ => rfl)
  have F5 := fun_mk (x := "need_folds") (qual := "need_folds") (st := s_need_folds) l5 c5 k5
  have Dneed_folds := Df.mk' (ok_need_folds (P := l.prog) (w := w) (mg := mg) (base := base) F5 T Dfits_folds) (PySem.W.mg_of X G a5) k5 (F5.binds (ps := p_need_folds) fun _ _ _ _ _ _ us hl => match us, hl with | [_], _ => rfl)
  have F6 := fun_mk (x := "steps_in") (qual := "steps_in") (st := s_steps_in) l6 c6 k6
  have Dsteps_in := Df.mk' (ok_steps_in (P := l.prog) (w := w) (mg := mg) (base := base) F6 T) (PySem.W.mg_of X G a6) k6 (F6.binds (ps := p_steps_in) fun _ _ _ _ _ _ us hl => match us, hl with | [_], _ => rfl)
  have F7 := fun_mk (x := "need_size") (qual := "need_size") (st := s_need_size) l7 c7 k7
  have Dneed_size := Df.mk' (ok_need_size (P := l.prog) (w := w) (mg := mg) (base := base) F7 T Dis_whole) (PySem.W.mg_of X G a7) k7 (F7.binds (ps := p_need_size) fun _ _ _ _ _ _ us hl => match us, hl with | [_, _], _ => rfl)
  have F8 := fun_mk (x := "twos_of") (qual := "twos_of") (st := s_twos_of) l8 c8 k8
  have Dtwos_of := Df.mk' (ok_twos_of (P := l.prog) (w := w) (mg := mg) (base := base) F8 T) (PySem.W.mg_of X G a8) k8 (F8.binds (ps := p_twos_of) fun _ _ _ _ _ _ us hl => match us, hl with | [_], _ => rfl)
  have F9 := fun_mk (x := "odd_parts") (qual := "odd_parts") (st := s_odd_parts) l9 c9 k9
  have Dodd_parts := Df.mk' (ok_odd_parts (P := l.prog) (w := w) (mg := mg) (base := base) F9 T Dtwos_of) (PySem.W.mg_of X G a9) k9 (F9.binds (ps := p_odd_parts) fun _ _ _ _ _ _ us hl => match us, hl with | [_], _ => rfl)
  have F10 := fun_mk (x := "weight_of") (qual := "weight_of") (st := s_weight_of) l10 c10 k10
  have Dweight_of := Df.mk' (ok_weight_of (P := l.prog) (w := w) (mg := mg) (base := base) F10 T Dtwos_of Dsteps_in) (PySem.W.mg_of X G a10) k10 (F10.binds (ps := p_weight_of) fun _ _ _ _ _ _ us hl => match us, hl with | [_, _], _ => rfl)
  have F11 := fun_mk (x := "power_within") (qual := "power_within") (st := s_power_within) l11 c11 k11
  have Dpower_within := Df.mk' (ok_power_within (P := l.prog) (w := w) (mg := mg) (base := base) F11 T) (PySem.W.mg_of X G a11) k11 (F11.binds (ps := p_power_within) fun _ _ _ _ _ _ us hl => match us, hl with | [_], _ => rfl)
  have F12 := fun_mk (x := "doubled_up") (qual := "doubled_up") (st := s_doubled_up) l12 c12 k12
  have Ddoubled_up := Df.mk' (ok_doubled_up (P := l.prog) (w := w) (mg := mg) (base := base) F12 T) (PySem.W.mg_of X G a12) k12 (F12.binds (ps := p_doubled_up) fun _ _ _ _ _ _ us hl => match us, hl with | [_, _], _ => rfl)
  have F13 := fun_mk (x := "is_washed") (qual := "is_washed") (st := s_is_washed) l13 c13 k13
  have Dis_washed := Df.mk' (ok_is_washed (P := l.prog) (w := w) (mg := mg) (base := base) F13 T Dtwos_of Dsteps_in Dweight_of) (PySem.W.mg_of X G a13) k13 (F13.binds (ps := p_is_washed) fun _ _ _ _ _ _ us hl => match us, hl with | [_, _], _ => rfl)
  have F14 := fun_mk (x := "sizes_washed") (qual := "sizes_washed") (st := s_sizes_washed) l14 c14 k14
  have Dsizes_washed := Df.mk' (ok_sizes_washed (P := l.prog) (w := w) (mg := mg) (base := base) F14 T Dsteps_in Dodd_parts Dweight_of Ddoubled_up) (PySem.W.mg_of X G a14) k14 (F14.binds (ps := p_sizes_washed) fun _ _ _ _ _ _ us hl => match us, hl with | [_], _ => rfl)
  have F15 := fun_mk (x := "ring_washes") (qual := "ring_washes") (st := s_ring_washes) l15 c15 k15
  have Dring_washes := Df.mk' (ok_ring_washes (P := l.prog) (w := w) (mg := mg) (base := base) F15 T Dneed_size Dneed_folds Dis_washed) (PySem.W.mg_of X G a15) k15 (F15.binds (ps := p_ring_washes) fun _ _ _ _ _ _ us hl => match us, hl with | [_, _], _ => rfl)
  have F16 := fun_mk (x := "washing_rings") (qual := "washing_rings") (st := s_washing_rings) l16 c16 k16
  have Dwashing_rings := Df.mk' (ok_washing_rings (P := l.prog) (w := w) (mg := mg) (base := base) F16 T Dneed_folds Dsteps_in Dsizes_washed) (PySem.W.mg_of X G a16) k16 (F16.binds (ps := p_washing_rings) fun _ _ _ _ _ _ us hl => match us, hl with | [_], _ => rfl)
  have F17 := fun_mk (x := "washing_power") (qual := "washing_power") (st := s_washing_power) l17 c17 k17
  have Dwashing_power := Df.mk' (ok_washing_power (P := l.prog) (w := w) (mg := mg) (base := base) F17 T Dneed_folds Dis_whole Dsteps_in Dweight_of Dpower_within) (PySem.W.mg_of X G a17) k17 (F17.binds (ps := p_washing_power) fun _ _ _ _ _ _ us hl => match us, hl with | [_, _], _ => rfl)
  have F18 := fun_mk (x := "_law_cup") (qual := "_law_cup") (st := s_law_cup) l18 c18 k18
  have D_law_cup := Df.mk' (ok_law_cup (P := l.prog) (w := w) (mg := mg) (base := base) F18 T) (PySem.W.mg_of X G a18) k18 (F18.binds (ps := p_law_cup) fun _ _ _ _ _ _ us hl => match us, hl with | [_], _ => rfl)
  have F19 := fun_mk (x := "_law_roll") (qual := "_law_roll") (st := s_law_roll) l19 c19 k19
  have D_law_roll := Df.mk' (ok_law_roll (P := l.prog) (w := w) (mg := mg) (base := base) F19 T) (PySem.W.mg_of X G a19) k19 (F19.binds (ps := p_law_roll) fun _ _ _ _ _ _ us hl => match us, hl with | [_, _], _ => rfl)
  have F20 := fun_mk (x := "_law_some") (qual := "_law_some") (st := s_law_some) l20 c20 k20
  have D_law_some := Df.mk' (ok_law_some (P := l.prog) (w := w) (mg := mg) (base := base) F20 T D_law_roll) (PySem.W.mg_of X G a20) k20 (F20.binds (ps := p_law_some) fun _ _ _ _ _ _ us hl => match us, hl with | [_, _], _ => rfl)
  have F21 := fun_mk (x := "_law_folds") (qual := "_law_folds") (st := s_law_folds) l21 c21 k21
  have D_law_folds := Df.mk' (ok_law_folds (P := l.prog) (w := w) (mg := mg) (base := base) F21 T D_law_roll D_law_some) (PySem.W.mg_of X G a21) k21 (F21.binds (ps := p_law_folds) fun _ _ _ _ _ _ us hl => match us, hl with | [_, _], _ => rfl)
  have F22 := fun_mk (x := "_law_steps") (qual := "_law_steps") (st := s_law_steps) l22 c22 k22
  have D_law_steps := Df.mk' (ok_law_steps (P := l.prog) (w := w) (mg := mg) (base := base) F22 T) (PySem.W.mg_of X G a22) k22 (F22.binds (ps := p_law_steps) fun _ _ _ _ _ _ us hl => match us, hl with | [_], _ => rfl)
  have F23 := fun_mk (x := "_law_times") (qual := "_law_times") (st := s_law_times) l23 c23 k23
  have D_law_times := Df.mk' (ok_law_times (P := l.prog) (w := w) (mg := mg) (base := base) F23 T) (PySem.W.mg_of X G a23) k23 (F23.binds (ps := p_law_times) fun _ _ _ _ _ _ us hl => match us, hl with | [_, _, _], _ => rfl)
  have F24 := fun_mk (x := "_law_washed_by_steps") (qual := "_law_washed_by_steps") (st := s_law_washed_by_steps) l24 c24 k24
  have D_law_washed_by_steps := Df.mk' (ok_law_washed_by_steps (P := l.prog) (w := w) (mg := mg) (base := base) F24 T D_law_times D_law_steps) (PySem.W.mg_of X G a24) k24 (F24.binds (ps := p_law_washed_by_steps) fun _ _ _ _ _ _ us hl => match us, hl with | [_, _], _ => rfl)
  have F25 := fun_mk (x := "_law_even_row") (qual := "_law_even_row") (st := s_law_even_row) l25 c25 k25
  have D_law_even_row := Df.mk' (ok_law_even_row (P := l.prog) (w := w) (mg := mg) (base := base) F25 T D_law_roll D_law_some) (PySem.W.mg_of X G a25) k25 (F25.binds (ps := p_law_even_row) fun _ _ _ _ _ _ us hl => match us, hl with | [_], _ => rfl)
  have F26 := fun_mk (x := "_law_right") (qual := "_law_right") (st := s_law_right) l26 c26 k26
  have D_law_right := Df.mk' (ok_law_right (P := l.prog) (w := w) (mg := mg) (base := base) F26 T (wr2 Dwashing_rings) D_law_steps Dwashing_power Dring_washes D_law_washed_by_steps) (PySem.W.mg_of X G a26) k26 (F26.binds (ps := p_law_right) fun _ _ _ _ _ _ us hl => match us, hl with | [_], _ => rfl)
  exact ok_law (P := l.prog) (w := w) (mg := mg) (base := base) (fun_mk (st := s_law) l27 c27 k27) T D_law_cup D_law_folds D_law_even_row D_law_right (wr2 Dwashing_rings) Dwashing_power
theorem walk {l : PySem.W.OpenLaw} {q : Program} {loose : List Str} {XP : (Str → Option Value) → Heap → Prop} {YP : World → Heap → Prop} {d : DefRec} {K : Params → PySem.W.Frag} (hn : l.most = some 63) (hdf : d.params.defaults = [])
    (hY : ∀ (w : World) (h : Heap), YP w h → (K w.params).In h)
    (F : ∀ (w : World) (mg : Str → Option Value) (fa : Addr) (h : Heap), (K w.params).In h → h.Ns mainGlobals mg → mg d.name = some (.ref fa) →
      ∃ fd : FuncData, (∀ (s : Shared) (u : Value), BindsTo s fd ⟨[u], []⟩ [("_law_script", u)]) ∧ ∀ base : Heap, (K w.params).In base → base.Ns mainGlobals mg → FnOk l.prog w (K w.params) mg base CX0 7 fa fd ["_law_script"] (sp_law (K w.params))) :
    PySem.W.WalkO q loose XP YP l.row.toRowW d [] (fun f vs => PySem.call f vs) :=
  L2.walk_of (n := 63) (k := 7) (x := "_law_script") (CX := fun _ => CX0) (sp := fun w => sp_law (K w.params)) hn (by decide) hdf ⟨rfl, by decide, by decide⟩ hY F (fun _ _ a ns hl _ hS => ⟨a, ns, rfl, hS, hl, fun _ => rfl⟩) fun _ _ _ _ _ z => z
end Wet

end
open PySem PySem.W PyProof.Rows
set_option maxRecDepth 100000 in
set_option maxHeartbeats 0 in
theorem PySem.Challenge.cw_wetfolds_k51_whole_lists_of_washing_ring_holds : PySem.Challenge.rw_wetfolds_k51_whole_lists_of_washing_ring.Holds := by
  w_on; o_law; k_head; (case hw => w_witness2)
  k_fill
  refine Wet.walk (l := PySem.Challenge.rw_wetfolds_k51_whole_lists_of_washing_ring) rfl rfl (fun w h Y => PySem.W.kIn_of Y) ?F
  case F =>
    intro w mg fa h KX G hmg
    refine' Wet.all_mk KX G hmg ?a1 ?l1 ?c1 ?k1 ?a2 ?l2 ?c2 ?k2 ?a3 ?l3 ?c3 ?k3 ?a4 ?l4 ?c4 ?k4 ?a5 ?l5 ?c5 ?k5 ?a6 ?l6 ?c6 ?k6 ?a7 ?l7 ?c7 ?k7 ?a8 ?l8 ?c8 ?k8 ?a9 ?l9 ?c9 ?k9 ?a10 ?l10 ?c10 ?k10 ?a11 ?l11 ?c11 ?k11 ?a12 ?l12 ?c12 ?k12 ?a13 ?l13 ?c13 ?k13 ?a14 ?l14 ?c14 ?k14 ?a15 ?l15 ?c15 ?k15 ?a16 ?l16 ?c16 ?k16 ?a17 ?l17 ?c17 ?k17 ?a18 ?l18 ?c18 ?k18 ?a19 ?l19 ?c19 ?k19 ?a20 ?l20 ?c20 ?k20 ?a21 ?l21 ?c21 ?k21 ?a22 ?l22 ?c22 ?k22 ?a23 ?l23 ?c23 ?k23 ?a24 ?l24 ?c24 ?k24 ?a25 ?l25 ?c25 ?k25 ?a26 ?l26 ?c26 ?k26 ?a27 ?l27 ?c27 ?k27 ?z1 ?z2 ?z3 ?z4 ?z5 ?z6 ?z7 ?z8 ?z9 ?z10 ?z11 ?z12 ?z13 ?z14 ?z15 ?z16 ?q1 ?q2 ?q3
    (case a1 => k_is); (case l1 => k_is); (case c1 => k_is); (case k1 => k_is)
    (case a2 => k_is); (case l2 => k_is); (case c2 => k_is); (case k2 => k_is)
    (case a3 => k_is); (case l3 => k_is); (case c3 => k_is); (case k3 => k_is)
    (case a4 => k_is); (case l4 => k_is); (case c4 => k_is); (case k4 => k_is)
    (case a5 => k_is); (case l5 => k_is); (case c5 => k_is); (case k5 => k_is)
    (case a6 => k_is); (case l6 => k_is); (case c6 => k_is); (case k6 => k_is)
    (case a7 => k_is); (case l7 => k_is); (case c7 => k_is); (case k7 => k_is)
    (case a8 => k_is); (case l8 => k_is); (case c8 => k_is); (case k8 => k_is)
    (case a9 => k_is); (case l9 => k_is); (case c9 => k_is); (case k9 => k_is)
    (case a10 => k_is); (case l10 => k_is); (case c10 => k_is); (case k10 => k_is)
    (case a11 => k_is); (case l11 => k_is); (case c11 => k_is); (case k11 => k_is)
    (case a12 => k_is); (case l12 => k_is); (case c12 => k_is); (case k12 => k_is)
    (case a13 => k_is); (case l13 => k_is); (case c13 => k_is); (case k13 => k_is)
    (case a14 => k_is); (case l14 => k_is); (case c14 => k_is); (case k14 => k_is)
    (case a15 => k_is); (case l15 => k_is); (case c15 => k_is); (case k15 => k_is)
    (case a16 => k_is); (case l16 => k_is); (case c16 => k_is); (case k16 => k_is)
    (case a17 => k_is); (case l17 => k_is); (case c17 => k_is); (case k17 => k_is)
    (case a18 => k_is); (case l18 => k_is); (case c18 => k_is); (case k18 => k_is)
    (case a19 => k_is); (case l19 => k_is); (case c19 => k_is); (case k19 => k_is)
    (case a20 => k_is); (case l20 => k_is); (case c20 => k_is); (case k20 => k_is)
    (case a21 => k_is); (case l21 => k_is); (case c21 => k_is); (case k21 => k_is)
    (case a22 => k_is); (case l22 => k_is); (case c22 => k_is); (case k22 => k_is)
    (case a23 => k_is); (case l23 => k_is); (case c23 => k_is); (case k23 => k_is)
    (case a24 => k_is); (case l24 => k_is); (case c24 => k_is); (case k24 => k_is)
    (case a25 => k_is); (case l25 => k_is); (case c25 => k_is); (case k25 => k_is)
    (case a26 => k_is); (case l26 => k_is); (case c26 => k_is); (case k26 => k_is)
    (case a27 => k_is); (case l27 => k_is); (case c27 => k_is); (case k27 => k_is)
    (case z1 => k_is); (case z2 => k_is); (case z3 => k_is); (case z4 => k_is); (case z5 => k_is); (case z6 => k_is); (case z7 => k_is); (case z8 => k_is); (case z9 => k_is); (case z10 => k_is); (case z11 => k_is); (case z12 => k_is); (case z13 => k_is); (case z14 => k_is); (case z15 => k_is); (case z16 => k_is)
    (case q1 => k_is); (case q2 => k_is); (case q3 => k_is)
