import PyProof.Rows.All
import Wide.All
import OpenK.AllK
import Wide.FinOn
import HandS.ForMost
import HandS.ForExc
import PySem.Challenge.RW_mendvault_k08_whole_filled_rows
import KE.GoesEnum
import HandS.Walk
import KE.KExcSuper
import KE.KExcIs
import HandS.ExcSuper
import HandS.ExcField
import HandS.Codes
import HandS.Conv
import HandS.IsInst
import KE.KExcLine
set_option Elab.async false
set_option linter.all false
set_option maxRecDepth 100000
/-! The field of 128 elements, polynomials over it, Newton and Lagrange. No program in sight. -/
namespace K8

/-! ### the product by shifts -/
theorem xor_lt {a b : Nat} (ha : a < 128) (hb : b < 128) : a ^^^ b < 128 := Nat.xor_lt_two_pow (n := 7) ha hb
/-- times x -/
def xt (a : Nat) : Nat := if 127 < a * 2 then (a * 2) ^^^ 131 else a * 2
def tloop : Nat → Nat → Nat → Nat → Nat
  | 0, _, _, t => t
  | n + 1, b, a, t => tloop n (b / 2) (xt a) (if b % 2 = 1 then t ^^^ a else t)
def mulN (a b : Nat) : Nat := tloop 7 b a 0
theorem xt_tab : ∀ a : Fin 128, xt a.1 < 128 := by decide +kernel
theorem xt_lin_tab : ∀ a b : Fin 128, xt (a.1 ^^^ b.1) = xt a.1 ^^^ xt b.1 := by decide +kernel
theorem mul_comm_tab : ∀ a b : Fin 128, mulN a.1 b.1 = mulN b.1 a.1 := by decide +kernel
theorem one_mul_tab : ∀ a : Fin 128, mulN 1 a.1 = a.1 := by decide +kernel
theorem xt_two_tab : ∀ a : Fin 128, xt a.1 = mulN 2 a.1 := by decide +kernel
theorem xt_lt {a : Nat} (h : a < 128) : xt a < 128 := xt_tab ⟨a, h⟩
theorem xt_lin {a b : Nat} (ha : a < 128) (hb : b < 128) : xt (a ^^^ b) = xt a ^^^ xt b := xt_lin_tab ⟨a, ha⟩ ⟨b, hb⟩
theorem tloop_lt : ∀ (n b a t : Nat), a < 128 → t < 128 → tloop n b a t < 128
  | 0, _, _, _, _, ht => ht
  | n + 1, b, a, t, ha, ht => by
    unfold tloop
    refine tloop_lt n _ _ _ (xt_lt ha) ?_
    split
    · exact xor_lt ht ha
    · exact ht
theorem mulN_lt {a b : Nat} (ha : a < 128) : mulN a b < 128 := tloop_lt 7 b a 0 ha (by decide)
theorem tloop_zero : ∀ (n a t : Nat), tloop n 0 a t = t
  | 0, _, _ => rfl
  | n + 1, a, t => by
    unfold tloop
    rw [if_neg (by decide)]
    exact tloop_zero n _ _
theorem xor4 (a b c d : Nat) : (a ^^^ b) ^^^ (c ^^^ d) = (a ^^^ c) ^^^ (b ^^^ d) := by
  rw [Nat.xor_assoc, Nat.xor_assoc, ← Nat.xor_assoc b, Nat.xor_comm b c, Nat.xor_assoc]
theorem tloop_add : ∀ (n b a c t u : Nat), a < 128 → c < 128 → tloop n b (a ^^^ c) (t ^^^ u) = tloop n b a t ^^^ tloop n b c u
  | 0, _, _, _, _, _, _, _ => rfl
  | n + 1, b, a, c, t, u, ha, hc => by
    unfold tloop
    rw [xt_lin ha hc]
    split
    · rw [xor4]
      exact tloop_add n _ _ _ _ _ (xt_lt ha) (xt_lt hc)
    · exact tloop_add n _ _ _ _ _ (xt_lt ha) (xt_lt hc)
theorem tloop_xt : ∀ (n b a t : Nat), a < 128 → t < 128 → tloop n b (xt a) (xt t) = xt (tloop n b a t)
  | 0, _, _, _, _, _ => rfl
  | n + 1, b, a, t, ha, ht => by
    unfold tloop
    split
    · rw [← xt_lin ht ha]
      exact tloop_xt n _ _ _ (xt_lt ha) (xor_lt ht ha)
    · exact tloop_xt n _ _ _ (xt_lt ha) ht

/-! ### the field -/
structure G where
  n : Nat
  lt : n < 128
deriving DecidableEq
theorem G.ext' {a b : G} (h : a.n = b.n) : a = b := by
  cases a; cases b; cases h; rfl
instance : Add G := ⟨fun a b => ⟨a.n ^^^ b.n, xor_lt a.lt b.lt⟩⟩
instance : Mul G := ⟨fun a b => ⟨mulN a.n b.n, mulN_lt a.lt⟩⟩
theorem add_n (a b : G) : (a + b).n = a.n ^^^ b.n := rfl
theorem mul_n (a b : G) : (a * b).n = mulN a.n b.n := rfl
def gpar (n : Nat) : G := if n % 2 = 1 then ⟨1, by decide⟩ else ⟨0, by decide⟩
instance : NatCast G := ⟨gpar⟩
instance (n : Nat) : OfNat G n := ⟨gpar n⟩
theorem zero_n : (0 : G).n = 0 := rfl
theorem one_n : (1 : G).n = 1 := rfl
theorem gmul_comm (a b : G) : a * b = b * a := G.ext' (mul_comm_tab ⟨a.n, a.lt⟩ ⟨b.n, b.lt⟩)
theorem gone_mul (a : G) : 1 * a = a := G.ext' (one_mul_tab ⟨a.n, a.lt⟩)
theorem gadd_comm (a b : G) : a + b = b + a := G.ext' (Nat.xor_comm _ _)
theorem gadd_assoc (a b c : G) : a + b + c = a + (b + c) := G.ext' (Nat.xor_assoc _ _ _)
theorem gadd_zero (a : G) : a + 0 = a := G.ext' (Nat.xor_zero _)
theorem gadd_self (a : G) : a + a = 0 := G.ext' (Nat.xor_self _)
theorem gright_distrib (a b c : G) : (a + b) * c = a * c + b * c := G.ext' (by
  have h := tloop_add 7 c.n a.n b.n 0 0 a.lt b.lt
  exact h)
theorem gleft_distrib (a b c : G) : a * (b + c) = a * b + a * c := by
  rw [gmul_comm a, gright_distrib, gmul_comm b, gmul_comm c]
theorem xt_mul {a b : Nat} (ha : a < 128) : mulN (xt a) b = xt (mulN a b) := by
  have h := tloop_xt 7 b a 0 ha (by decide)
  exact h
theorem mul_xt {a b : Nat} (ha : a < 128) (hb : b < 128) : mulN a (xt b) = xt (mulN a b) := by
  have h1 : mulN a (xt b) = mulN (xt b) a := mul_comm_tab ⟨a, ha⟩ ⟨xt b, xt_lt hb⟩
  have h2 : mulN b a = mulN a b := mul_comm_tab ⟨b, hb⟩ ⟨a, ha⟩
  rw [h1, xt_mul hb, h2]
theorem mulN_xor {a b c : Nat} (ha : a < 128) (hb : b < 128) (hc : c < 128) : mulN a (b ^^^ c) = mulN a b ^^^ mulN a c :=
  congrArg G.n (gleft_distrib ⟨a, ha⟩ ⟨b, hb⟩ ⟨c, hc⟩)
theorem tloop_mul {a : Nat} (ha : a < 128) : ∀ (n c b t : Nat), b < 128 → t < 128 → tloop n c (mulN a b) (mulN a t) = mulN a (tloop n c b t)
  | 0, _, _, _, _, _ => rfl
  | n + 1, c, b, t, hb, ht => by
    unfold tloop
    rw [← mul_xt ha hb]
    split
    · rw [← mulN_xor ha ht hb]
      exact tloop_mul ha n _ _ _ (xt_lt hb) (xor_lt ht hb)
    · exact tloop_mul ha n _ _ _ (xt_lt hb) ht
theorem mulN_zero_tab : ∀ a : Fin 128, mulN a.1 0 = 0 := by decide +kernel
theorem gmul_assoc (a b c : G) : a * b * c = a * (b * c) := G.ext' (by
  have h := tloop_mul a.lt 7 c.n b.n 0 b.lt (by decide)
  have z : mulN a.n 0 = 0 := mulN_zero_tab ⟨a.n, a.lt⟩
  rw [z] at h
  exact h)
theorem gzero_mul (a : G) : 0 * a = 0 := by
  rw [gmul_comm]
  exact G.ext' (mulN_zero_tab ⟨a.n, a.lt⟩)
instance : Neg G := ⟨fun a => a⟩
instance : Sub G := ⟨fun a b => a + b⟩
def gpow (a : G) : Nat → G
  | 0 => 1
  | n + 1 => gpow a n * a
instance : HPow G Nat G := ⟨gpow⟩
instance : SMul Nat G := ⟨fun n a => (n : G) * a⟩
instance : IntCast G := ⟨fun i => gpar i.natAbs⟩
instance : SMul Int G := ⟨fun i a => (i : G) * a⟩
theorem gpar_succ (n : Nat) : gpar (n + 1) = gpar n + 1 := by
  unfold gpar
  rcases Nat.mod_two_eq_zero_or_one n with h | h
  · rw [if_pos (by omega), if_neg (by omega)]; rfl
  · rw [if_neg (by omega), if_pos (by omega)]; rfl
instance : Lean.Grind.CommRing G where
  add_zero := gadd_zero
  add_comm := gadd_comm
  add_assoc := gadd_assoc
  mul_assoc := gmul_assoc
  mul_one := fun a => by rw [gmul_comm]; exact gone_mul a
  one_mul := gone_mul
  left_distrib := gleft_distrib
  right_distrib := gright_distrib
  zero_mul := gzero_mul
  mul_zero := fun a => by rw [gmul_comm]; exact gzero_mul a
  pow_zero := fun _ => rfl
  pow_succ := fun _ _ => rfl
  ofNat_succ := gpar_succ
  neg_add_cancel := gadd_self
  sub_eq_add_neg := fun _ _ => rfl
  neg_zsmul := fun i a => by
    show gpar (-i).natAbs * a = gpar i.natAbs * a
    rw [Int.natAbs_neg]
  zsmul_natCast_eq_nsmul := fun n a => rfl
  intCast_neg := fun i => by
    show gpar (-i).natAbs = gpar i.natAbs
    rw [Int.natAbs_neg]
  mul_comm := gmul_comm
instance : Lean.Grind.IsCharP G 2 where
  ofNat_ext_iff := fun {x y} => by
    show gpar x = gpar y ↔ _
    unfold gpar
    rcases Nat.mod_two_eq_zero_or_one x with h | h <;> rcases Nat.mod_two_eq_zero_or_one y with k | k <;> simp [h, k]
/-! ### inverses -/
/-- power(a, n), as the loop reckons it -/
def ploop : Nat → Nat → Nat → Nat → Nat
  | 0, _, _, t => t
  | k + 1, n, a, t => ploop k (n / 2) (mulN a a) (if n % 2 = 1 then mulN t a else t)
def invN (a : Nat) : Nat := ploop 7 126 a 1
theorem ploop_zero : ∀ (k a t : Nat), ploop k 0 a t = t
  | 0, _, _ => rfl
  | k + 1, a, t => by
    unfold ploop
    rw [if_neg (by decide)]
    exact ploop_zero k _ _
theorem ploop_lt : ∀ (k n a t : Nat), a < 128 → t < 128 → ploop k n a t < 128
  | 0, _, _, _, _, ht => ht
  | k + 1, n, a, t, ha, ht => by
    unfold ploop
    refine ploop_lt k _ _ _ (mulN_lt ha) ?_
    split
    · exact mulN_lt ht
    · exact ht
theorem inv_tab : ∀ a : Fin 128, a.1 = 0 ∨ mulN a.1 (invN a.1) = 1 := by decide +kernel
def G.inv (a : G) : G := ⟨invN a.n, ploop_lt 7 126 a.n 1 a.lt (by decide)⟩
theorem G.mul_inv {a : G} (h : a ≠ 0) : a * a.inv = 1 := by
  rcases inv_tab ⟨a.n, a.lt⟩ with e | e
  · exact absurd (G.ext' e) h
  · exact G.ext' e
theorem G.inv_mul {a : G} (h : a ≠ 0) : a.inv * a = 1 := by rw [gmul_comm]; exact G.mul_inv h
theorem G.add_eq_zero {a b : G} (h : a + b = 0) : a = b := by grind
theorem G.ne_add {a b : G} (h : a ≠ b) : a + b ≠ 0 := fun e => h (G.add_eq_zero e)
theorem G.no_div {a b : G} (h : a * b = 0) (ha : a ≠ 0) : b = 0 := by
  have e := G.inv_mul ha
  grind

/-! ### polynomials: lists, the lowest first -/
def ev : List G → G → G
  | [], _ => 0
  | c :: r, x => c + x * ev r x
theorem ev_nil (x : G) : ev [] x = 0 := rfl
theorem ev_cons (c : G) (r : List G) (x : G) : ev (c :: r) x = c + x * ev r x := rfl
theorem ev_fold (x : G) : ∀ l : List G, l.reverse.foldl (fun t c => t * x + c) 0 = ev l x
  | [] => rfl
  | c :: r => by
    rw [List.reverse_cons, List.foldl_append, ev_fold x r]
    show ev r x * x + c = c + x * ev r x
    grind
theorem ev_append (x : G) : ∀ (l m : List G), ev (l ++ m) x = ev l x + x ^ l.length * ev m x
  | [], m => by
    show ev m x = 0 + (1 : G) * ev m x
    grind
  | c :: r, m => by
    show c + x * ev (r ++ m) x = c + x * ev r x + (x ^ r.length * x) * ev m x
    rw [ev_append x r m]
    grind
theorem ev_zeros (x : G) : ∀ l : List G, (∀ c ∈ l, c = 0) → ev l x = 0
  | [], _ => rfl
  | c :: r, h => by
    rw [ev_cons, h c List.mem_cons_self, ev_zeros x r fun d hd => h d (List.mem_cons_of_mem _ hd)]
    grind
def quo : List G → G → List G
  | [], _ => []
  | [_], _ => []
  | _ :: d :: r, a => ev (d :: r) a :: quo (d :: r) a
theorem quo_len : ∀ (l : List G) (a : G), (quo l a).length = l.length - 1
  | [], _ => rfl
  | [_], _ => rfl
  | _ :: d :: r, a => by
    show (quo (d :: r) a).length + 1 = _
    rw [quo_len (d :: r) a]
    simp
theorem quo_ev : ∀ (l : List G) (a x : G), ev l x + ev l a = (x + a) * ev (quo l a) x
  | [], a, x => by
    show (0 : G) + 0 = (x + a) * 0
    grind
  | [c], a, x => by
    show (c + x * 0) + (c + a * 0) = (x + a) * 0
    grind
  | c :: d :: r, a, x => by
    have ih := quo_ev (d :: r) a x
    show (c + x * ev (d :: r) x) + (c + a * ev (d :: r) a) = (x + a) * (ev (d :: r) a + x * ev (quo (d :: r) a) x)
    grind
/-- no more coefficients than roots: nought -/
theorem ev_roots : ∀ (xs : List G) (l : List G), l.length ≤ xs.length → xs.Nodup → (∀ a ∈ xs, ev l a = 0) → ∀ x, ev l x = 0
  | [], l, hl, _, _, x => by
    have e : l = [] := List.eq_nil_of_length_eq_zero (by simpa using hl)
    subst e
    rfl
  | a :: as, l, hl, hn, hr, x => by
    obtain ⟨h1, h2⟩ := List.nodup_cons.mp hn
    have ha := hr a List.mem_cons_self
    have hq : ∀ x, ev l x = (x + a) * ev (quo l a) x := fun x => by
      have e := quo_ev l a x
      rw [ha] at e
      grind
    have ih := ev_roots as (quo l a) (by rw [quo_len]; simp at hl; omega) h2 fun b hb => by
      have e := hq b
      rw [hr b (List.mem_cons_of_mem _ hb)] at e
      exact G.no_div e.symm (G.ne_add fun z => h1 (z ▸ hb))
    rw [hq x, ih x]
    grind

def addP : List G → List G → List G
  | [], q => q
  | p, [] => p
  | a :: p, b :: q => (a + b) :: addP p q
theorem addP_ev (x : G) : ∀ p q : List G, ev (addP p q) x = ev p x + ev q x
  | [], q => by
    show ev q x = 0 + ev q x
    grind
  | a :: p, [] => by
    show ev (a :: p) x = ev (a :: p) x + 0
    grind
  | a :: p, b :: q => by
    show (a + b) + x * ev (addP p q) x = (a + x * ev p x) + (b + x * ev q x)
    rw [addP_ev x p q]
    grind
theorem addP_len : ∀ (p q : List G) (n : Nat), p.length ≤ n → q.length ≤ n → (addP p q).length ≤ n
  | [], _, _, _, h => h
  | _ :: _, [], _, h, _ => h
  | _ :: p, _ :: q, 0, h, _ => by simp at h
  | _ :: p, _ :: q, n + 1, h, k => by
    show (addP p q).length + 1 ≤ n + 1
    exact Nat.succ_le_succ (addP_len p q n (Nat.le_of_succ_le_succ h) (Nat.le_of_succ_le_succ k))
def scP (c : G) (l : List G) : List G := l.map fun a => c * a
theorem scP_ev (c x : G) : ∀ l : List G, ev (scP c l) x = c * ev l x
  | [] => by
    show (0 : G) = c * 0
    grind
  | a :: l => by
    show c * a + x * ev (scP c l) x = c * (a + x * ev l x)
    rw [scP_ev c x l]
    grind
theorem scP_len (c : G) (l : List G) : (scP c l).length = l.length := by unfold scP; simp
def linP (a : G) (l : List G) : List G := addP (scP a l) (0 :: l)
theorem linP_ev (a x : G) (l : List G) : ev (linP a l) x = (x + a) * ev l x := by
  unfold linP
  rw [addP_ev, scP_ev, ev_cons]
  grind
theorem linP_len (a : G) (l : List G) : (linP a l).length ≤ l.length + 1 := addP_len _ _ _ (by rw [scP_len]; omega) (by simp)
/-- the product of (x + a), a in xs -/
def prodX : List G → G → G
  | [], _ => 1
  | a :: as, x => (x + a) * prodX as x
def prodP : List G → List G
  | [] => [1]
  | a :: as => linP a (prodP as)
theorem prodP_ev (x : G) : ∀ xs : List G, ev (prodP xs) x = prodX xs x
  | [] => by
    show (1 : G) + x * 0 = 1
    grind
  | a :: as => by
    show ev (linP a (prodP as)) x = _
    rw [linP_ev, prodP_ev x as]
    rfl
theorem prodP_len : ∀ xs : List G, (prodP xs).length ≤ xs.length + 1
  | [] => Nat.le_refl _
  | a :: as => Nat.le_trans (linP_len a _) (Nat.succ_le_succ (prodP_len as))
theorem prodX_zero {x : G} : ∀ {xs : List G}, x ∈ xs → prodX xs x = 0
  | a :: as, h => by
    show (x + a) * prodX as x = 0
    rcases List.mem_cons.mp h with e | h
    · subst e
      grind
    · rw [prodX_zero h]
      grind
theorem prodX_ne {x : G} : ∀ {xs : List G}, x ∉ xs → prodX xs x ≠ 0
  | [], _ => by
    intro e
    have z : (1 : G).n = (0 : G).n := congrArg G.n e
    exact absurd z (by decide)
  | a :: as, h => fun e => by
    have h1 : x ≠ a := fun z => h (z ▸ List.mem_cons_self)
    exact prodX_ne (fun z => h (List.mem_cons_of_mem _ z)) (G.no_div e (G.ne_add h1))
theorem prodX_append (x : G) (b : G) : ∀ xs : List G, prodX (xs ++ [b]) x = prodX xs x * (x + b)
  | [] => by
    show (x + b) * 1 = 1 * (x + b)
    grind
  | a :: as => by
    show (x + a) * prodX (as ++ [b]) x = (x + a) * prodX as x * (x + b)
    rw [prodX_append x b as]
    grind
/-- all but one -/
def oth (xs : List G) (a : G) : List G := xs.filter fun b => decide (b ≠ a)
theorem oth_none {a : G} : ∀ {xs : List G}, a ∉ xs → oth xs a = xs
  | [], _ => rfl
  | b :: r, h => by
    have e : b ≠ a := fun z => h (z ▸ List.mem_cons_self)
    unfold oth
    rw [List.filter_cons, if_pos (by simp [e])]
    have := oth_none (a := a) (xs := r) fun z => h (List.mem_cons_of_mem _ z)
    unfold oth at this
    rw [this]
theorem oth_split {x a : G} : ∀ {xs : List G}, xs.Nodup → a ∈ xs → prodX xs x = (x + a) * prodX (oth xs a) x
  | b :: r, hn, h => by
    obtain ⟨h1, h2⟩ := List.nodup_cons.mp hn
    by_cases e : b = a
    · subst e
      have : oth (b :: r) b = r := by
        unfold oth
        rw [List.filter_cons, if_neg (by simp)]
        exact oth_none h1
      rw [this]
      rfl
    · have hr : a ∈ r := (List.mem_cons.mp h).resolve_left fun z => e z.symm
      have : oth (b :: r) a = b :: oth r a := by
        unfold oth
        rw [List.filter_cons, if_pos (by simp [e])]
      rw [this]
      show (x + b) * prodX r x = (x + a) * ((x + b) * prodX (oth r a) x)
      rw [oth_split h2 hr]
      grind
theorem oth_len {a : G} : ∀ {xs : List G}, a ∈ xs → (oth xs a).length + 1 ≤ xs.length
  | b :: r, h => by
    by_cases e : b = a
    · subst e
      unfold oth
      rw [List.filter_cons, if_neg (by simp)]
      exact Nat.succ_le_succ (List.length_filter_le _ _)
    · have hr : a ∈ r := (List.mem_cons.mp h).resolve_left fun z => e z.symm
      have : oth (b :: r) a = b :: oth r a := by
        unfold oth
        rw [List.filter_cons, if_pos (by simp [e])]
      rw [this]
      exact Nat.succ_le_succ (oth_len hr)
theorem oth_not {a : G} {xs : List G} : a ∉ oth xs a := fun h => by
  have := (List.mem_filter.mp h).2
  simp at this
theorem oth_mem {a b : G} {xs : List G} (h : b ∈ xs) (e : b ≠ a) : b ∈ oth xs a := List.mem_filter.mpr ⟨h, by simp [e]⟩

/-! ### Lagrange -/
def lagC (xs : List G) (p : G × G) : G := p.2 * (prodX (oth xs p.1) p.1).inv
/-- the sum over the pairs of ps, the places of all in xs -/
def lagP (xs : List G) : List (G × G) → List G
  | [] => []
  | p :: r => addP (scP (lagC xs p) (prodP (oth xs p.1))) (lagP xs r)
def lagV (xs : List G) (x : G) : List (G × G) → G
  | [] => 0
  | p :: r => lagC xs p * prodX (oth xs p.1) x + lagV xs x r
theorem lagP_ev (xs : List G) (x : G) : ∀ ps, ev (lagP xs ps) x = lagV xs x ps
  | [] => rfl
  | p :: r => by
    show ev (addP _ _) x = _
    rw [addP_ev, scP_ev, prodP_ev, lagP_ev xs x r]
    rfl
theorem lagP_len (xs : List G) : ∀ ps : List (G × G), (∀ p ∈ ps, p.1 ∈ xs) → (lagP xs ps).length ≤ xs.length
  | [], _ => Nat.zero_le _
  | p :: r, h => addP_len _ _ _ (by rw [scP_len]; exact Nat.le_trans (prodP_len _) (oth_len (h p List.mem_cons_self))) (lagP_len xs r fun q hq => h q (List.mem_cons_of_mem _ hq))
theorem lagV_out (xs : List G) (x : G) : ∀ ps : List (G × G), (∀ p ∈ ps, p.1 ≠ x) → x ∈ xs → lagV xs x ps = 0
  | [], _, _ => rfl
  | p :: r, h, hx => by
    show lagC xs p * prodX (oth xs p.1) x + lagV xs x r = 0
    rw [lagV_out xs x r (fun q hq => h q (List.mem_cons_of_mem _ hq)) hx, prodX_zero (oth_mem hx (fun e => h p List.mem_cons_self e.symm))]
    grind
theorem lagV_at (xs : List G) : ∀ (ps : List (G × G)) (p : G × G), (ps.map (·.1)).Nodup → (∀ q ∈ ps, q.1 ∈ xs) → p ∈ ps → lagV xs p.1 ps = p.2
  | q :: r, p, hn, hx, hp => by
    obtain ⟨h1, h2⟩ := List.nodup_cons.mp (show (q.1 :: r.map (·.1)).Nodup from hn)
    show lagC xs q * prodX (oth xs q.1) p.1 + lagV xs p.1 r = p.2
    rcases List.mem_cons.mp hp with e | hp
    · subst e
      rw [lagV_out xs p.1 r (fun z hz e => h1 (e ▸ List.mem_map_of_mem hz)) (hx p List.mem_cons_self)]
      unfold lagC
      have e := G.inv_mul (prodX_ne (x := p.1) (xs := oth xs p.1) oth_not)
      grind
    · have hne : p.1 ≠ q.1 := fun e => h1 (e ▸ List.mem_map_of_mem hp)
      rw [lagV_at xs r p h2 (fun z hz => hx z (List.mem_cons_of_mem _ hz)) hp, prodX_zero (oth_mem (hx p (List.mem_cons_of_mem _ hp)) hne)]
      grind
/-- any polynomial through the points, no longer than they are many -/
def Thru (r : List G) (ps : List (G × G)) : Prop := r.length ≤ ps.length ∧ ∀ p ∈ ps, ev r p.1 = p.2
theorem lag_is {r : List G} {ps : List (G × G)} (hn : (ps.map (·.1)).Nodup) (h : Thru r ps) (x : G) : lagV (ps.map (·.1)) x ps = ev r x := by
  have hx : ∀ q ∈ ps, q.1 ∈ ps.map (·.1) := fun q hq => List.mem_map_of_mem hq
  have z := ev_roots (ps.map (·.1)) (addP (lagP (ps.map (·.1)) ps) r) (addP_len _ _ _ (lagP_len _ ps hx) (by rw [List.length_map]; exact h.1)) hn (fun a ha => by
    obtain ⟨p, hp, e⟩ := List.mem_map.mp ha
    subst e
    rw [addP_ev, lagP_ev, lagV_at _ ps p hn hx hp, h.2 p hp]
    grind) x
  rw [addP_ev, lagP_ev] at z
  exact G.add_eq_zero z
theorem thru_eq {r s : List G} {ps : List (G × G)} (hn : (ps.map (·.1)).Nodup) (h : Thru r ps) (k : Thru s ps) (x : G) : ev r x = ev s x := (lag_is hn h x).symm.trans (lag_is hn k x)
end K8

/-! Plain lemmas about coefficient lists that the defs ask. -/
namespace K8
theorem ev_take_drop (l : List G) (m : Nat) (h : ∀ c ∈ l.drop m, c = 0) (x : G) : ev (l.take m) x = ev l x := by
  have e := ev_append x (l.take m) (l.drop m)
  rw [List.take_append_drop, ev_zeros x _ h] at e
  rw [e]
  grind
theorem ev_take_succ {l : List G} {i : Nat} {c : G} (h : l[i]? = some c) (x : G) : ev (l.take (i + 1)) x = ev (l.take i) x + c * x ^ i := by
  have hi := (List.getElem?_eq_some_iff.mp h).1
  have e : l.take (i + 1) = l.take i ++ [c] := by
    rw [List.take_add_one, h]
    rfl
  rw [e, ev_append, List.length_take, Nat.min_eq_left (Nat.le_of_lt hi)]
  show _ + x ^ i * (c + x * 0) = _
  grind
theorem ev_set : ∀ {l : List G} {k : Nat} {c : G} (d x : G), l[k]? = some c → ev (l.set k (c + d)) x = ev l x + d * x ^ k
  | [], _, _, _, _, h => by simp at h
  | a :: r, 0, c, d, x, h => by
    have e : a = c := Option.some.inj h
    subst e
    show (a + d) + x * ev r x = (a + x * ev r x) + d * 1
    grind
  | a :: r, k + 1, c, d, x, h => by
    have ih := ev_set (l := r) (k := k) d x (by simpa using h)
    show a + x * ev (r.set k (c + d)) x = (a + x * ev r x) + d * (x ^ k * x)
    rw [ih]
    grind
theorem ev_rep (n : Nat) (x : G) : ev (List.replicate n 0) x = 0 := ev_zeros x _ fun c h => (List.mem_replicate.mp h).2
/-- the sum's coefficients -/
def sumL (p q : List G) : List G := (List.range (max p.length q.length)).map fun k => p.getD k 0 + q.getD k 0
theorem sumL_nil_right : ∀ p : List G, sumL p [] = p := by
  intro p
  unfold sumL
  apply List.ext_getElem
  · simp
  · intro i h1 h2
    simp only [List.getElem_map, List.getElem_range]
    rw [List.getD_eq_getElem?_getD, List.getElem?_eq_getElem h2]
    show p[i] + 0 = p[i]
    grind
theorem sumL_nil_left : ∀ p : List G, sumL [] p = p := by
  intro p
  unfold sumL
  apply List.ext_getElem
  · simp
  · intro i h1 h2
    simp only [List.getElem_map, List.getElem_range]
    rw [show p.getD i 0 = p[i] by rw [List.getD_eq_getElem?_getD, List.getElem?_eq_getElem h2]; rfl]
    show 0 + p[i] = p[i]
    grind
theorem sumL_cons (a b : G) (p q : List G) : sumL (a :: p) (b :: q) = (a + b) :: sumL p q := by
  unfold sumL
  have e : max (a :: p).length (b :: q).length = max p.length q.length + 1 := by simp only [List.length_cons]; omega
  rw [e, List.range_succ_eq_map, List.map_cons, List.map_map]
  rfl
theorem sumL_ev (x : G) : ∀ p q : List G, ev (sumL p q) x = ev p x + ev q x
  | [], q => by
    rw [sumL_nil_left]
    show ev q x = 0 + ev q x
    grind
  | a :: p, [] => by
    rw [sumL_nil_right]
    show ev (a :: p) x = ev (a :: p) x + 0
    grind
  | a :: p, b :: q => by
    rw [sumL_cons]
    show (a + b) + x * ev (sumL p q) x = (a + x * ev p x) + (b + x * ev q x)
    rw [sumL_ev x p q]
    grind
theorem sumL_len (p q : List G) : (sumL p q).length = max p.length q.length := by unfold sumL; simp

/-! ### Newton's step -/
/-- behind the points ps: found goes through them, noughts is nought at them -/
structure Newt (ps : List (G × G)) (fo no : List G) : Prop where
  thru : Thru fo ps
  len : no.length ≤ ps.length + 1
  val : ∀ x, ev no x = prodX (ps.map (·.1)) x
theorem Newt.start : Newt [] [] [1] := ⟨⟨Nat.le_refl _, fun p h => nomatch h⟩, Nat.le_refl _, fun x => by
  show (1 : G) + x * 0 = 1
  grind⟩
theorem Newt.there {ps : List (G × G)} {fo no : List G} (N : Newt ps fo no) {p : G × G} (hp : p.1 ∉ ps.map (·.1)) : ev no p.1 ≠ 0 := by
  rw [N.val]
  exact prodX_ne hp
theorem Newt.step {ps : List (G × G)} {fo no fo' no' : List G} (N : Newt ps fo no) {p : G × G} (hp : p.1 ∉ ps.map (·.1))
    (hl : fo'.length ≤ max fo.length no.length) (hf : ∀ x, ev fo' x = ev fo x + ((p.2 + ev fo p.1) * (ev no p.1).inv) * ev no x)
    (hl2 : no'.length ≤ no.length + 1) (hn : ∀ x, ev no' x = ev no x * (p.1 + x)) : Newt (ps ++ [p]) fo' no' := by
  have ht := N.there hp
  refine ⟨⟨?_, fun q hq => ?_⟩, ?_, fun x => ?_⟩
  · have h1 := N.thru.1
    have h2 := N.len
    rw [List.length_append, List.length_singleton]
    omega
  · rw [hf]
    rcases List.mem_append.mp hq with hq | hq
    · rw [N.thru.2 q hq, N.val q.1, prodX_zero (List.mem_map_of_mem hq)]
      grind
    · have e : q = p := List.mem_singleton.mp hq
      subst e
      have e1 := G.inv_mul ht
      grind
  · have h2 := N.len
    rw [List.length_append, List.length_singleton]
    omega
  · rw [hn, N.val, List.map_append]
    show _ = prodX (_ ++ [p.1]) x
    rw [prodX_append]
    grind
end K8

/-! The text by places: statements of the top, the defs' names by slots. -/
namespace K8
open PySem PySem.Spec PyProof.Rows L2
def top (i : Nat) : Stmt := PySem.Challenge.pw_mendvault_k08_whole_filled_rows.main.body.getD i (.Pass ⟨0, 0, 0, 0⟩)
abbrev sBadI : Stmt := inClass (top 2) 0
abbrev sBeyI : Stmt := inClass (top 3) 0
abbrev sAdded : Stmt := top 6
abbrev sTimes : Stmt := top 7
abbrev sPower : Stmt := top 8
abbrev sInverse : Stmt := top 9
abbrev sOver : Stmt := top 10
abbrev sTrimmed : Stmt := top 12
abbrev sCoef : Stmt := top 13
abbrev sPAdd : Stmt := top 14
abbrev sPTimes : Stmt := top 15
abbrev sPValue : Stmt := top 16
abbrev sPThru : Stmt := top 17
abbrev sWord : Stmt := top 19
abbrev sGiven : Stmt := top 20
abbrev sUnlike : Stmt := top 21
abbrev sFilled : Stmt := top 22
abbrev sMixed : Stmt := top 24
abbrev sPool : Stmt := top 25
abbrev sTake : Stmt := top 26
abbrev sField : Stmt := top 27
abbrev sThru : Stmt := top 28
abbrev sSymbol : Stmt := top 29
abbrev sShape : Stmt := top 30
abbrev sIsRow : Stmt := top 31
abbrev sSome : Stmt := top 32
abbrev sTold : Stmt := top 33
abbrev sIsTold : Stmt := top 34
abbrev sSymbols : Stmt := top 35
abbrev sAgrees : Stmt := top 36
abbrev sLaw : Stmt := top 37
theorem scAdded : FnScope ["a", "b"] ["a", "b"] (defScope sAdded) := ⟨rfl, rfl, rfl, by decide +kernel, rfl, by decide +kernel, by decide +kernel⟩
theorem scTimes : FnScope ["a", "b", "total"] ["a", "b"] (defScope sTimes) := ⟨rfl, rfl, rfl, by decide +kernel, rfl, by decide +kernel, by decide +kernel⟩
theorem scPower : FnScope ["a", "n", "total"] ["a", "n"] (defScope sPower) := ⟨rfl, rfl, rfl, by decide +kernel, rfl, by decide +kernel, by decide +kernel⟩
theorem scInverse : FnScope ["a"] ["a"] (defScope sInverse) := ⟨rfl, rfl, rfl, by decide +kernel, rfl, by decide +kernel, by decide +kernel⟩
theorem scOver : FnScope ["a", "b"] ["a", "b"] (defScope sOver) := ⟨rfl, rfl, rfl, by decide +kernel, rfl, by decide +kernel, by decide +kernel⟩
theorem scTrimmed : FnScope ["row", "size"] ["row"] (defScope sTrimmed) := ⟨rfl, rfl, rfl, by decide +kernel, rfl, by decide +kernel, by decide +kernel⟩
theorem scCoef : FnScope ["p", "k"] ["p", "k"] (defScope sCoef) := ⟨rfl, rfl, rfl, by decide +kernel, rfl, by decide +kernel, by decide +kernel⟩
theorem scPAdd : FnScope ["p", "q", "k"] ["p", "q"] (defScope sPAdd) := ⟨rfl, rfl, rfl, by decide +kernel, rfl, by decide +kernel, by decide +kernel⟩
theorem scPTimes : FnScope ["p", "q", "row", "i", "one", "j", "other"] ["p", "q"] (defScope sPTimes) := ⟨rfl, rfl, rfl, by decide +kernel, rfl, by decide +kernel, by decide +kernel⟩
theorem scPValue : FnScope ["p", "x", "total", "c"] ["p", "x"] (defScope sPValue) := ⟨rfl, rfl, rfl, by decide +kernel, rfl, by decide +kernel, by decide +kernel⟩
theorem scPThru : FnScope ["points", "found", "noughts", "x", "y", "there", "by"] ["points"] (defScope sPThru) := ⟨rfl, rfl, rfl, by decide +kernel, rfl, by decide +kernel, by decide +kernel⟩
theorem scWord : FnScope ["p", "size", "x"] ["p", "size"] (defScope sWord) := ⟨rfl, rfl, rfl, by decide +kernel, rfl, by decide +kernel, by decide +kernel⟩
theorem scGiven : FnScope ["symbols", "k", "points", "at", "symbol"] ["symbols", "k"] (defScope sGiven) := ⟨rfl, rfl, rfl, by decide +kernel, rfl, by decide +kernel, by decide +kernel⟩
theorem scUnlike : FnScope ["word", "points", "at", "symbol"] ["word", "points"] (defScope sUnlike) := ⟨rfl, rfl, rfl, by decide +kernel, rfl, by decide +kernel, by decide +kernel⟩
theorem scFilled : FnScope ["symbols", "k", "points", "word"] ["symbols", "k"] (defScope sFilled) := ⟨rfl, rfl, rfl, by decide +kernel, rfl, by decide +kernel, by decide +kernel⟩
theorem scMixed : FnScope ["_law_number", "_law_turn", "_law_many", "_law_prime", "_law_once", "_law_twice"] ["_law_number", "_law_turn", "_law_many"] (defScope sMixed) := ⟨rfl, rfl, rfl, by decide +kernel, rfl, by decide +kernel, by decide +kernel⟩
theorem scPool : FnScope ["_law_script", "_law_seed", "_law_cell", "_law_cells"] ["_law_script"] (defScope sPool) := ⟨rfl, rfl, rfl, by decide +kernel, rfl, by decide +kernel, by decide +kernel⟩
theorem scTake : FnScope ["_law_pool_here", "_law_many", "_law_drawn"] ["_law_pool_here", "_law_many"] (defScope sTake) := ⟨rfl, rfl, rfl, by decide +kernel, rfl, by decide +kernel, by decide +kernel⟩
theorem scField : FnScope ["_law_power", "_law_k", "_law_doubled", "_law_log"] [] (defScope sField) := ⟨rfl, rfl, rfl, by decide +kernel, rfl, by decide +kernel, by decide +kernel⟩
theorem scThru : FnScope ["_law_field_here", "_law_points", "_law_many", "_law_log", "_law_power", "_law_weights", "_law_word", "_law_x", "_law_value", "_law_given", "_law_whole", "_law_k", "_law_part", "_law_one", "_law_two"] ["_law_field_here", "_law_points", "_law_many"] (defScope sThru) := ⟨rfl, rfl, rfl, by decide +kernel, rfl, by decide +kernel, by decide +kernel⟩
theorem scSymbol : FnScope ["_law_pool_here"] ["_law_pool_here"] (defScope sSymbol) := ⟨rfl, rfl, rfl, by decide +kernel, rfl, by decide +kernel, by decide +kernel⟩
theorem scShape : FnScope ["_law_pool_here", "_law_most", "_law_k"] ["_law_pool_here", "_law_most"] (defScope sShape) := ⟨rfl, rfl, rfl, by decide +kernel, rfl, by decide +kernel, by decide +kernel⟩
theorem scIsRow : FnScope ["_law_actual", "_law_due", "_law_k"] ["_law_actual", "_law_due"] (defScope sIsRow) := ⟨rfl, rfl, rfl, by decide +kernel, rfl, by decide +kernel, by decide +kernel⟩
theorem scSome : FnScope ["_law_pool_here", "_law_many", "_law_from_many", "_law_left", "_law_chosen", "_law_k"] ["_law_pool_here", "_law_many", "_law_from_many"] (defScope sSome) := ⟨rfl, rfl, rfl, by decide +kernel, rfl, by decide +kernel, by decide +kernel⟩
theorem scTold : FnScope ["_law_symbols_here", "_law_k", "_law_named", "e"] ["_law_symbols_here", "_law_k", "_law_named"] (defScope sTold) := ⟨rfl, rfl, rfl, by decide +kernel, rfl, by decide +kernel, by decide +kernel⟩
theorem scIsTold : FnScope ["_law_field_here", "_law_symbols_here", "_law_k", "_law_told_here", "_law_points", "_law_due", "_law_x", "_law_y"] ["_law_field_here", "_law_symbols_here", "_law_k", "_law_told_here"] (defScope sIsTold) := ⟨rfl, rfl, rfl, by decide +kernel, rfl, by decide +kernel, by decide +kernel⟩
theorem scSymbols : FnScope ["_law_pool_here", "_law_field_here", "_law_k", "_law_r", "_law_data", "_law_symbols_here", "_law_turn", "_law_at", "_law_x"] ["_law_pool_here", "_law_field_here", "_law_k", "_law_r"] (defScope sSymbols) := ⟨rfl, rfl, rfl, by decide +kernel, rfl, by decide +kernel, by decide +kernel⟩
theorem scAgrees : FnScope ["_law_pool_here", "_law_field_here", "_law_k", "_law_r", "_law_symbols_here", "_law_lost", "_law_at", "_law_handed"] ["_law_pool_here", "_law_field_here"] (defScope sAgrees) := ⟨rfl, rfl, rfl, by decide +kernel, rfl, by decide +kernel, by decide +kernel⟩
theorem scLaw : FnScope ["_law_script", "_law_pool_here", "_law_field_here", "_law_turn"] ["_law_script"] (defScope sLaw) := ⟨rfl, rfl, rfl, by decide +kernel, rfl, by decide +kernel, by decide +kernel⟩
end K8

set_option maxHeartbeats 2000000
/-! Rules beside HandS: enumerate of a tuple, t[::-1] of a tuple. -/
namespace K8R
open PySem PySem.Spec PyProof.Rows L2

/-! ### enumerate(t), t a tuple -/
theorem meets_enumerate_newT {v : Value} {o : Obj} {H : Heap → Prop} (B : Begins v o H) :
    Meets (Builtin.«enumerate.__new__» ⟨[.type "enumerate", v], []⟩) (fun _ R s => H s.heap ∧
      R (.ok (.ret (.ref (s.heap.push o).objs.size))) { s with heap := (s.heap.push o).push { cls := .type "enumerate", data := .fields #[.none, .bool false, .ref s.heap.objs.size, rawInt 0, .none, .none] } }) :=
  .of_wp fun prog w A R s h => by
    obtain ⟨hp, g, d, tk, os⟩ := s; obtain ⟨h1, h⟩ := h
    have hsub := sub_enumerate
    have q1 : ∀ {A' : Around} {E : Value → Shared → Prop} {Q : Value → Shared → Prop}, Q (.ref hp.objs.size) ⟨hp.push o, g, d, tk, os⟩ → wpAny (model prog w) A' (pyIter v) Q E ⟨hp, g, d, tk, os⟩ :=
      fun q => B.iter prog w _ _ ⟨hp, g, d, tk, os⟩ _ h1 q
    wp_walk using q1
    refine wpAny_stack_any fun st => wpAny_pure ?_
    split
    · rename_i c _ _ _ _ _
      cases (c == Value.type "enumerate")
      · wp_walk using q1
        exact ⟨_, rfl, h⟩
      · wp_walk using q1
        exact ⟨_, rfl, h⟩
    · wp_walk using q1
      exact ⟨_, rfl, h⟩
section
variable {prog : Program} {w : World} {A : Around} {E : Value → Shared → Prop} {s : Shared}
theorem call_enumT {v : Value} {o : Obj} {H : Heap → Prop} {Q : Value → Shared → Prop} (B : Begins v o H) (h1 : H s.heap)
    (h : ∀ h', IsEnum h' (s.heap.objs.size + 1) s.heap.objs.size 0 .none → h'.get? s.heap.objs.size = some o → h'.objs.size = s.heap.objs.size + 2 →
      (∀ b o, s.heap.get? b = some o → h'.get? b = some o) → Q (.ref (s.heap.objs.size + 1)) { s with heap := h' }) :
    wpAny (model prog w) A (call (.type "enumerate") [v]) Q E s := by
  refine callType_new F.called_enumerate (by decide) (F.typeCall_enumerate_1 _) (F.newCall_enumerate_1 _) (fun obj => F.args_object_init_2 obj _) F.entry_enumerate_new
    (meets_enumerate_newT B) ⟨h1, ?_⟩
  have hz : (s.heap.push o).objs.size = s.heap.objs.size + 1 := Heap.size_push ..
  show _ ∧ _
  rw [hz]
  have he : IsEnum ((s.heap.push o).push { cls := .type "enumerate", data := .fields #[.none, .bool false, .ref s.heap.objs.size, rawInt 0, .none, .none] }) (s.heap.objs.size + 1) s.heap.objs.size 0 .none := by
    have := Heap.get?_push_size (s.heap.push o) (o := { cls := .type "enumerate", data := .fields #[.none, .bool false, .ref s.heap.objs.size, rawInt 0, .none, .none] }) rfl
    rw [hz] at this; exact this
  refine ⟨⟨_, he, rfl⟩, h _ he (Heap.get?_push_of_some _ (Heap.get?_push_size _ B.free)) (by rw [Heap.size_push, hz]) fun b o x => Heap.get?_push_of_some _ (Heap.get?_push_of_some _ x)⟩
end
/-- the tuple at a, each item in a new pair -/
def IteT (K : PySem.W.Frag) (a : Addr) : It :=
  ⟨fun i H => ∃ (xs : List V) (x : V), SqT K H a xs ∧ xs[i]? = some x, fun i H v H' => ∃ T x, v = .ref T ∧ H T = none ∧ H' = upd H T (.tup [.int (i : Nat), x]) ∧ ∀ xs, SqT K H a xs → xs[i]? = some x, fun i H => ∃ xs : List V, SqT K H a xs ∧ xs.length ≤ i⟩
theorem turn_enumT {P : Program} {w : World} {K : PySem.W.Frag} {elts : List Expr} {kk : Nat} {tpos : Pos} (a e it : Addr) :
    Turn P w K (.Tuple elts kk tpos) (IteT K a) [e, it] e (fun i h => (∃ old, IsEnum h e it ((i : Nat) : Int) old) ∧ h.IsTupleIter it a i ∧ e ≠ it) where
  mem := by simp
  obj := fun i h st b hb => by
    obtain ⟨⟨old, he⟩, ⟨o, ho, hc, hd⟩, _⟩ := st
    have e' : b = e ∨ b = it := by simpa using hb
    rcases e' with z | z
    · rw [z]; exact ⟨_, he, fun v q => nomatch q⟩
    · rw [z]; exact ⟨o, ho, fun v q => by rw [hd] at q; cases q⟩
  keep := fun i h h' st k => let ⟨⟨old, he⟩, hi, hne⟩ := st; ⟨⟨old, k e (by simp) _ he⟩, hi.at fun o q => k it (by simp) o q, hne⟩
  item := by
    intro X hP hw hK hc i pins s σ H E I hf st hg
    subst hP hw hK
    obtain ⟨⟨old, he⟩, hit, hne⟩ := st
    obtain ⟨xs, x, hq, hx⟩ := hg
    obtain ⟨its, rv, p, hz⟩ := I.tuple hq
    obtain ⟨u, hu, ru⟩ := rv.get hx
    have hel : e < s.heap.objs.size := Heap.lt_size he
    have hil : it < s.heap.objs.size := by obtain ⟨_, q, _⟩ := hit; exact Heap.lt_size q
    have hea : a ≠ e := fun z => by
      obtain ⟨o, ho, hcl, _⟩ := p
      rw [z] at ho
      have q : some _ = some o := (he : s.heap.get? e = some _).symm.trans ho
      cases q
      have hcl' : Value.type "enumerate" = Value.type "tuple" := hcl
      exact absurd hcl' (by decide)
    have hia : a ≠ it := fun z => by
      obtain ⟨o, ho, hcl, _⟩ := p
      obtain ⟨o2, ho2, hc2, _⟩ := hit
      rw [z, ho2] at ho
      cases ho
      rw [hc2] at hcl
      exact absurd hcl (by decide)
    have hh := I.ok.hd hc
    have D := Draws.tuple (prog := X.prog) (w := X.w) (A := X.A.in1) (show X.A.in1.handled = none from hh) it a hia its.toArray
    refine wpAny_pyNext_enum_itemD D he (i := i) ⟨hit, p⟩ (by
      have hl := rv.length
      have := (List.getElem?_eq_some_iff.mp hx).1
      simp only [List.size_toArray]
      omega) hne (by simp [hne, hea.symm]) fun x' h' tk hP ho hit' hT hsz hk => ?_
    have ex : x' = u := by
      have q : its.toArray[i]? = some x' := hP
      rw [List.getElem?_toArray, hu] at q
      exact (Option.some.inj q).symm
    subst ex
    refine ⟨_, rfl, wpAny_letOwnedTupleGo_enum (s := { s with heap := h', toks := tk + 1 }) ho fun h'' he' sb => ?_⟩
    have hT2 : h''.get? s.heap.objs.size = some { cls := .type "tuple", data := .seq #[.int i tk, x'] } := (sb.2 _ (Nat.ne_of_gt hel)).trans hT
    have new : ObjOk X.prog X.w (upd H s.heap.objs.size (.tup [.int (i : Nat), x])) h'' s.heap.objs.size (.tup [.int (i : Nat), x]) :=
      ⟨by show 2 ≤ sizeLine; decide, [.int i tk, x'], .cons ⟨_, rfl⟩ (.cons ru .nil), ⟨_, hT2, rfl, _, rfl⟩⟩
    have I1 : Inv X pins σ (upd H s.heap.objs.size (.tup [.int (i : Nat), x])) { s with heap := h'', toks := tk + 1 } :=
      I.turnedNew (ch := [e, it]) (fun b ob hb q => (sb.2 b (fun z => hb (by simp [z]))).trans (hk b ob (fun z => hb (by simp [z])) (fun z => hb (by simp [z])) q)) hf (Nat.le_refl _) new
    refine ⟨.ref s.heap.objs.size, _, I1, rfl, ⟨_, x, rfl, I.hok.fresh (Nat.le_refl _), rfl, fun ys hy => by rw [I.tuple_inj hy hq]; exact hx⟩, ⟨⟨x', ?_⟩, hit'.1.at fun o q => (sb.2 it (Ne.symm hne)).trans q, hne⟩, fun b hb => ?_⟩
    · have e1 : ((i + 1 : Nat) : Int) = (i : Int) + 1 := by omega
      rw [e1]; exact he'
    · have hb' : b < s.heap.objs.size := by
        have e' : b = e ∨ b = it := by simpa using hb
        rcases e' with z | z
        · rw [z]; exact hel
        · rw [z]; exact hil
      rw [upd_ne (Nat.ne_of_lt hb')]
      exact (hf b hb).1
  done := by
    intro X hP hw hK hc i pins s σ H E I hf st hg
    subst hP hw hK
    obtain ⟨⟨old, he⟩, hit, hne⟩ := st
    obtain ⟨xs, hq, hx⟩ := hg
    obtain ⟨its, rv, p, hz⟩ := I.tuple hq
    obtain ⟨f0, f1, f2, f3, f4, f5⟩ := hf it (by simp)
    have hl := rv.length
    have hia : a ≠ it := fun z => by
      obtain ⟨o, ho, hcl, _⟩ := p
      obtain ⟨o2, ho2, hc2, _⟩ := hit
      rw [z, ho2] at ho
      cases ho
      rw [hc2] at hcl
      exact absurd hcl (by decide)
    have hh := I.ok.hd hc
    have hT : s.TypeIs (.ref e) "enumerate" := ⟨_, he, rfl⟩
    have hh1 : X.A.in1.handled = none := hh
    unfold pyNext
    refine wpAny_bind (wpAny_attempt (wpAny_callSpecial?_slot (name := Str.ofString "__next__") hT F.slot_enumerate_next
      (wpAny_call_entry F.slot_enumerate_next hT F.entry_enumerate_next ?_ (F.args_enumerate_next_1 _))))
    show wpAny _ _ (field (.ref e) 2 >>= _) _ _ _
    refine wpAny_bind (wpAny_field he rfl (x := .ref it) rfl ?_)
    refine wpAny_bind (wpAny_nextOf_tuple_end hh1 hit (show s.heap.IsTuple a its.toArray from p) (by
      rw [List.getElem?_toArray]
      exact List.getElem?_eq_none (by omega)) fun h' x' he' hx' => ?_)
    obtain ⟨o, ho, hc2⟩ := hx'
    refine wpAny_bind (wpAny_isInstance (T := "StopIteration") (b := true) ⟨o, ho, hc2⟩ isSubtype_stop ?_)
    exact wpAny_pure ⟨rfl, I.turned (t' := s.toks) (fun b o hb q => he' b o hb q) f0 f1 f3 f4 f5⟩
  self := fun A i s Q E st h => let ⟨⟨_, he⟩, _⟩ := st; wpAny_pyIter_enum he h
/-- enumerate of a list or a tuple -/
def iEnumA (K : PySem.W.Frag) (ta : TA) : TI := fun σ H R => ta σ H fun vs H1 => ∃ a xs, vs = [.ref a] ∧ ((SqL K H1 a xs ∧ R (Ite K a) H1) ∨ (SqT K H1 a xs ∧ R (IteT K a) H1))
theorem pi_enumA {X : Cx} {e : Expr} {ta : TA} {p pos tpos : Pos} {elts : List Expr} {kk : Nat} (hg : Gl X "enumerate") (hm : X.mg "enumerate" = none) (ha : PA X [e] ta) (hs : starEach [e] X.env = [(false, eval e X.env)] := by rfl) :
    PI X (.Tuple elts kk tpos) (.Call (.Name "enumerate" p) [e] [] pos) (iEnumA X.K ta) := by
  refine ⟨fun pins s σ H R I h => ?_⟩
  refine Call_ (ld_blt I hg hm boot_enumerate (PyProof.Rows.callWith_type1 (thn (ha.run pos pins s σ H _ I h) fun us s1 ⟨vs, H1, I1, r1, q1⟩ => ?_) hs rfl))
  obtain ⟨a, xs, ex, q⟩ := q1
  subst ex
  cases r1 with
  | cons r rr =>
    cases rr
    cases r
    have hfp : ∀ b ∈ [s1.heap.objs.size + 1, s1.heap.objs.size], FpOk X pins H1 b := fun b hb => by
      have e' : b = s1.heap.objs.size + 1 ∨ b = s1.heap.objs.size := by simpa using hb
      have hle : s1.heap.objs.size ≤ b := by
        rcases e' with z | z
        · rw [z]; exact Nat.le_add_right _ _
        · rw [z]; exact Nat.le_refl _
      exact I1.fpOk hle (I1.hok.fresh hle)
    rcases q with ⟨hq, q⟩ | ⟨hq, q⟩
    · obtain ⟨its, rv, p', hz⟩ := I1.list hq
      refine call_enumerate_list p'.isList fun h' he hit hsz hk => wpAny_pyIter_enum he ?_
      have I2 : Inv X pins σ H1 { s1 with heap := h' } := I1.kept (t' := s1.toks) hk
      exact ⟨s1.heap.objs.size + 1, [s1.heap.objs.size + 1, s1.heap.objs.size], _, _, H1, rfl, I2, turn_enum a (s1.heap.objs.size + 1) s1.heap.objs.size, ⟨⟨.none, he⟩, hit, Nat.succ_ne_self _⟩, hfp, q⟩
    · obtain ⟨its, rv, p', hz⟩ := I1.tuple hq
      refine call_enumT (begins_tuple a its.toArray) (show s1.heap.IsTuple a its.toArray from p') fun h' he hit hsz hk => wpAny_pyIter_enum he ?_
      have I2 : Inv X pins σ H1 { s1 with heap := h' } := I1.kept (t' := s1.toks) hk
      exact ⟨s1.heap.objs.size + 1, [s1.heap.objs.size + 1, s1.heap.objs.size], _, _, H1, rfl, I2, turn_enumT a (s1.heap.objs.size + 1) s1.heap.objs.size, ⟨⟨.none, he⟩, ⟨_, hit, rfl, rfl⟩, Nat.succ_ne_self _⟩, hfp, q⟩
theorem walk_enumT {K : PySem.W.Frag} {a : Addr} {xs : List V} : Walk (IteT K a) xs.length (fun H => SqT K H a xs) (YPair (fun i => some (.int (i : Nat))) (fun i => xs[i]?)) := by
  refine ⟨fun i _ hi q => ⟨xs, xs[i], q, by simp [hi]⟩, fun _ q => ⟨xs, q, Nat.le_refl _⟩, fun i H v H' _ q y => ?_⟩
  obtain ⟨T, x, h1, h2, h3, h4⟩ := y
  exact ⟨T, .int (i : Nat), x, h1, h2, h3, rfl, h4 xs q⟩

/-! ### t[::-1], t a tuple -/
theorem rev_pick (xs : List Value) : ((List.range xs.length).filterMap fun (k : Nat) => xs.toArray[(((xs.length : Int) - 1) + (k : Int) * (-1)).toNat]?).toArray = xs.reverse.toArray := by
  congr 1
  have e : ∀ n, n ≤ xs.length → ((List.range n).filterMap fun (k : Nat) => xs.toArray[(((xs.length : Int) - 1) + (k : Int) * (-1)).toNat]?) = (xs.drop (xs.length - n)).reverse := by
    intro n
    induction n with
    | zero => intro _; simp
    | succ n ih =>
      intro hn
      rw [List.range_succ, List.filterMap_append, ih (by omega)]
      have e1 : (((xs.length : Int) - 1) + (n : Int) * (-1)).toNat = xs.length - (n + 1) := by omega
      have e2 : xs.toArray[xs.length - (n + 1)]? = some xs[xs.length - (n + 1)] := by
        rw [List.getElem?_toArray]
        exact List.getElem?_eq_getElem _
      have e3 : xs.drop (xs.length - (n + 1)) = xs[xs.length - (n + 1)] :: xs.drop (xs.length - n) := by
        rw [List.drop_eq_getElem_cons (by omega)]
        congr 2
        omega
      rw [e3, List.reverse_cons]
      simp only [List.filterMap_cons, e1, e2, List.filterMap_nil]
  rw [e xs.length (Nat.le_refl _)]
  simp
theorem sliceApplied_rev {prog : Program} {w : World} {A : Around} {E : Value → Shared → Prop} {s : Shared} {sl : Addr} {vs : Value} {n : Nat} {Q : Int × Int × Nat → Shared → Prop} (hs : s.heap.IsSliceOf sl .none .none vs) (pk : IsPart vs (some (-1)))
    (h : Q ((n : Int) - 1, -1, n) s) : wpAny (model prog w) A (Builtin.Slice.sliceApplied (.ref sl) (pure (n : Int))) Q E s := by
  obtain ⟨os, hos, hcs, hds⟩ := id hs
  unfold Builtin.Slice.sliceApplied Builtin.Slice.sliceFields
  refine wpAny_bind (wpAny_bind (wpAny_field hos hds (x := .none) rfl (wpAny_bind (wpAny_field hos hds (x := .none) rfl (wpAny_bind (wpAny_field hos hds (x := vs) rfl (wpAny_pure ?_)))))))
  refine wpAny_bind (HT.slicePart_ pk ?_)
  show wpAny _ _ (if ((-1 : Int) == 0) = true then _ else _) _ _ s
  rw [if_neg (by decide)]
  refine wpAny_bind (slicePart_none (wpAny_bind (slicePart_none (wpAny_bind (wpAny_pure ?_)))))
  show wpAny _ _ (pure ((n : Int) - 1, (-1 : Int), Builtin.Slice.slicePlaces ((n : Int) - 1) (-1) (-1))) _ _ s
  have e : Builtin.Slice.slicePlaces ((n : Int) - 1) (-1) (-1) = n := by
    unfold Builtin.Slice.slicePlaces
    rw [if_neg (by decide)]
    split
    · have : ((n : Int) - 1 - -1 - 1) / (- -1) = (n : Int) - 1 := by
        rw [show (- -1 : Int) = 1 by decide, Int.ediv_one]
        omega
      rw [this]
      omega
    · omega
  rw [e]
  exact wpAny_pure h
theorem getItem_tuple_rev {prog : Program} {w : World} {A : Around} {E : Value → Shared → Prop} {s : Shared} {t sl : Addr} {its : List Value} {vs : Value} {Q : Value → Shared → Prop} (ht : IsTup s.heap t its.toArray) (hs : s.heap.IsSliceOf sl .none .none vs) (pk : IsPart vs (some (-1)))
    (h : Q (.ref s.heap.objs.size) { s with heap := s.heap.push { cls := .type "tuple", data := .seq its.reverse.toArray } })
    (hsz : its.length ≤ sizeLine) : wpAny (model prog w) A (getItem (.ref t) (.ref sl)) Q E s := by
  have htake : sizeOk (.seq its.reverse.toArray) := by
    show its.reverse.toArray.size ≤ sizeLine
    simpa using hsz
  obtain ⟨os, hos, hcs, hds⟩ := id hs
  have hTs : s.TypeIs (.ref sl) "slice" := ⟨os, hos, hcs⟩
  unfold getItem
  try with_reducible refine wpAny_holding ?_
  first | refine wpAny_bind (wpAny_pure ?_) | skip
  refine wpAny_bind (wpAny_sequenceKey ht.typeIs (by decide) ?_)
  refine wpAny_bind (wpAny_callSpecial?_slot (name := Str.ofString "__getitem__") ht.typeIs PyProof.Rows.slot_tuple_getitem
    (wpAny_call_entry PyProof.Rows.slot_tuple_getitem ht.typeIs entry_tuple_getitem ?_ (args_tuple_getitem _ _)))
  show wpAny _ _ (Builtin.Tuple.tupleItemsOf (.ref t) >>= _) _ _ s
  refine wpAny_bind (tupleItemsOf_ ht ?_)
  refine wpAny_bind (wpAny_typeOf hTs ?_)
  rw [if_pos (by decide)]
  refine wpAny_bind (sliceApplied_rev (n := its.length) hs pk ?_)
  have hno : ¬ ((((its.length : Int) - 1 == 0) && ((-1 : Int) == 1) && (its.length == its.toArray.size)) = true) := by simp
  show wpAny _ _ (if (((its.length : Int) - 1 == 0) && ((-1 : Int) == 1) && (its.length == its.toArray.size)) = true then _ else _) _ _ s
  rw [if_neg hno, rev_pick]
  first
    | exact wpAny_bind (m := Builtin.Tuple.tupleExact _) (wpAny_newObj_type (wpAny_pure ⟨_, rfl, wpAny_pure h⟩) htake)
    | exact wpAny_bind (m := Builtin.Tuple.tupleExact _) (wpAny_newObj_type (wpAny_bind (wpAny_pure (wpAny_pure ⟨_, rfl, wpAny_pure h⟩))) htake)
    | exact wpAny_bind (wpAny_bind (m := Builtin.Tuple.tupleExact _) (wpAny_newObj_type (wpAny_pure (wpAny_pure ⟨_, rfl, wpAny_pure h⟩)) htake))
    | exact wpAny_bind (wpAny_bind (m := Builtin.Tuple.tupleExact _) (wpAny_newObj_type (wpAny_pure ⟨_, rfl, wpAny_pure h⟩) htake))
def tRevT (K : PySem.W.Frag) (te : TE) : TE := fun σ H Q => te σ H fun x H1 => ∃ a xs, x = .ref a ∧ SqT K H1 a xs ∧ ∀ p, H1 p = none → Q (.ref p) (upd H1 p (.tup xs.reverse))
theorem pe_revT {X : Cx} {e : Expr} {te : TE} {k : Nat} {p1 p2 p3 pos : Pos} (he : PE X e te) : PE X (.Subscript e (.Slice none none (some (.UnaryOp .USub (.Constant (.int 1) k p1) p2)) p3) pos) (tRevT X.K te) := by
  refine ⟨fun pins s σ H Q I h => ?_⟩
  refine Subscript_ (thn (he.run pins s σ H _ I h) fun v s1 ⟨x, H1, I1, r1, q1⟩ => ?_)
  obtain ⟨a, xs, ex, hx, q⟩ := q1
  subst ex
  cases r1
  have hst : PO X (some (.UnaryOp .USub (.Constant (.int 1) k p1) p2)) (tPart (tUn (rU fun i => .int (-i)) (tC (.int 1)))) := po_some (pe_un un_neg pe_int)
  refine wpAny_Slice (thn (po_none.run pins s1 σ H1 (fun o H2 => o = none ∧ H2 = H1) I1 ⟨rfl, rfl⟩) fun vl s2 ⟨l, H2, I2, pl, el, e2⟩ => ?_)
  subst el e2
  refine thn (po_none.run pins s2 σ H2 (fun o H3 => o = none ∧ H3 = H2) I2 ⟨rfl, rfl⟩) fun vu s3 ⟨u, H3, I3, pu, eu, e3⟩ => ?_
  subst eu e3
  refine thn (hst.run pins s3 σ H3 (fun o H4 => o = some (-1) ∧ H4 = H3) I3 ⟨1, rfl, -1, rfl, rfl, rfl⟩) fun vs s4 ⟨o, H4, I4, ps, eo, e4⟩ => ?_
  subst eo e4
  have I5 : Inv X pins σ H4 { s4 with heap := s4.heap.push { cls := .type "slice", data := .fields #[vl, vu, vs] } } := I4.kept (t' := s4.toks) fun b ob q => Heap.get?_push_of_some _ q
  obtain ⟨its, r, ht, hz⟩ := I5.tuple hx
  have hlen := r.length
  cases pl
  cases pu
  show wpAny (model X.prog X.w) X.A (subscriptTail e (.Slice none none (some (.UnaryOp .USub (.Constant (.int 1) k p1) p2)) p3) (.ref a) (.ref s4.heap.objs.size)) (EP X pins σ Q) X.xe { s4 with heap := s4.heap.push { cls := .type "slice", data := .fields #[.none, .none, vs] } }
  refine tail_any (ops := [.ref a, .ref s4.heap.objs.size]) ht.typeIs PyProof.Rows.slot_tuple_getitem.lookup ?_ (by with_unfolding_all rfl)
  refine getItem_tuple_rev ht (Heap.IsSliceOf.new _ .none .none vs) ps ?_ (by omega)
  refine ⟨.ref _, _, I5.laid (t' := s4.toks) (o := .tup xs.reverse) (fun b ob q => Heap.get?_push_of_some _ q) (Nat.le_refl _) ?_, rfl, q _ (I5.hok.fresh (Nat.le_refl _))⟩
  exact ⟨by rw [List.length_reverse]; exact hz, _, r.reverse, ⟨_, Heap.get?_push_size _ rfl, rfl, _, rfl⟩⟩
end K8R

set_option maxHeartbeats 4000000
/-! An own error over an own error, its __init__ saying super().__init__(word): made, raised; isinstance of it in the suite. -/
namespace K8X
open PySem PySem.W PySem.Calls PyProof.Rows PySem.HandSPX
abbrev bmEx : List Value := [.type "Exception", .type "BaseException", .type "object"]
/-- what the written part says of Beyond, at C, of its __init__, at fI, its cell, at cc, its code, at cda -/
structure BeyTxt (P : Program) (K : Frag) (mg : Str → Option Value) (C fI cc cda : Addr) : Prop where
  gC : mg "Beyond" = some (.ref C)
  q : excInitIn K C bmEx "Exception.__new__" = true
  ov : excOver K C bmEx = true
  tk : takerIn K C "word" = some none
  hh : hasDictIn K C = true
  sa : findIn K (.ref C) "__setattr__" = some (some (.builtin "object.__setattr__"))
  ini : findIn K (.ref C) "__init__" = some (some (.ref fI))
  tI : typeIn K (.ref fI) = some (.type "function")
  kC : keepIn K (.ref C) = true
  exB : subIn K (.ref C) (.type "BaseException") = some true
  exE : subIn K (.ref C) (.type "Exception") = some true
  tyC : typeIn K (.ref C) = some (.type "type")
  al : ks_superIn K C C "__init__" = some (some (.builtin "Exception.__init__"))
  opq : nsIn K cStatics "thirdparty.any" = some none
  mro : mroIn K C (.ref C) = some true
  fn : ∃ (oc : Value) (od : Option Addr) (doc pm : Value) (an : Option Addr) (ct : Value) (osl : Array (Option Value)),
    K.lookup fI = some ⟨oc, od, .func (ksFn "__init__" "Beyond.__init__" (L2.defArgs K8.sBeyI) (L2.defBody K8.sBeyI) (L2.defScope K8.sBeyI) .none .none doc pm an (.ref cda) ct cc), osl⟩
  cd : codeIn K (.ref cda) "Beyond.__init__" = true
  code : ∃ (ccl : Value) (cdd : Option Addr) (vs : Array Value) (ccs : Array (Option Value)) (file : Str) (tf : Tok), K.lookup cda = some ⟨ccl, cdd, .fields vs, ccs⟩ ∧ vs[2]? = some (.str file tf) ∧ ((P.main.file : Str) == file) = true
  cell : ∃ (cl : Value) (cld : Option Addr) (csl : Array (Option Value)), K.lookup cc = some ⟨cl, cld, .cell (some (.ref C)), csl⟩
  sup : mg "super" = none
  htop : (P.main.scope.names.lookup ("super" : Str)).isSome = false
/-- what __init__ leaves of a fresh error at x -/
structure InitEnd (h h' : Heap) (x C dx : Addr) (v : Value) : Prop where
  keep : ∀ b o, b ≠ x → h.get? b = some o → h'.get? b = some o
  obj : ∃ t1 : Addr, h'.get? x = some { cls := .ref C, dict := some dx, data := .fields #[.ref t1, .none, .none, .none, .bool false, .none] }
  dbig : h.objs.size ≤ dx
  dne : dx ≠ x
  ns : h'.Ns1 dx (fun y => if y = "word" then some v else none)
theorem one_size (v : Value) : [v].length ≤ sizeLine := by
  rw [sizeLine_eq]
  exact (by decide : 1 ≤ 16777216)
theorem ldC {M : Model} {s : Shared} {A : Around} {E : Value → Shared → Prop} {env : Env} {m : Str → Option Value} {x : Str} {pos : Pos} {v : Value} {Q : Value → Shared → Prop} (hn : s.heap.Ns env.locals m) (hv : m x = some v) (h : Q v s)
    (hk : env.scope.kind = .function := by rfl) (hl : env.kindOf x = some .local := by rfl) (hd : (x == ("__debug__" : Str)) = false := by decide) :
    wpAny M A (eval (.Name x pos) env) Q E s := wpAny_Name (wpAny_loadName_local hk hl hn hv h) hd
section
variable {prog : Program} {w : World} {A : Around} {R : Result → Shared → Prop} {s : Shared} {K : Frag} {mg : Str → Option Value} {C fI cc cda : Addr}
theorem excO_eq (C t : Addr) : excO C t = excObj C t none .none := rfl
/-- self.word = v -/
theorem bey_store (T : BeyTxt prog K mg C fI cc cda) {x t : Addr} {v : Value} {tk : Tok} (X : K.In s.heap) (hx : s.heap.get? x = some (excObj C t none .none))
    (hq : ∀ h' tk', InitEnd s.heap h' x C s.heap.objs.size v → R (.ok (.ret .none)) { s with heap := h', toks := tk' }) :
    codeAny (model prog w) A (.call (.builtin "object.__setattr__") ⟨[.ref x, .str "word" tk, v], []⟩) R s := by
  refine osa_openX (od := none) PySem.F.store_Exception X ⟨hx, rfl, rfl, trivial⟩ T.ov T.tk fun b => ?_
  obtain ⟨cd, hc, hd'⟩ := any_some T.hh
  have hxs : x ≠ s.heap.objs.size := Nat.ne_of_lt (Heap.lt_size hx)
  refine wpAny_bind (wpAny_pure (wpAny_bind (instanceDict_exc hx (looks_clsIn X hc) hd' ?_)))
  obtain ⟨hp, g, d, tk0, os⟩ := s
  refine HandSPX.store_in_new (dx := hp.objs.size) ?_ fun h' tk' hn' hs => ?_
  · exact ⟨_, #[], _, (Heap.get?_update_ne _ _ _ _ hxs.symm).trans (Heap.get?_push_at rfl rfl), rfl, fun e he => absurd he (by simp), fun _ => rfl⟩
  · have hx₁ : (hp.push { cls := .type "dict", data := .dict #[] }).get? x = some (excObj C t none .none) := Heap.get?_push_of_some _ hx
    refine hq h' tk' ⟨fun b o hb ho => ?_, ⟨t, ?_⟩, Nat.le_refl _, hxs.symm, hn'⟩
    · exact (hs.2 b (Nat.ne_of_lt (Heap.lt_size ho))).trans ((Heap.get?_update_ne _ _ _ _ hb).trans (Heap.get?_push_of_some _ ho))
    · exact (hs.2 x hxs).trans (Heap.get?_update_self _ hx₁ rfl)
/-- the whole __init__ -/
theorem bey_init (T : BeyTxt prog K mg C fI cc cda) {x t0 : Addr} {v : Value} (X : K.In s.heap) (G : s.heap.Ns mainGlobals mg) (B : ∃ mb, s.heap.Ns builtinsNs mb ∧ ∀ x : Str, x ≠ "__name__" → mb x = bootBuiltins x)
    (hlim : s.heap.NoLimit) (hx : s.heap.get? x = some (excObj C t0 none .none)) (nxK : K.lookup x = none) (hroom : A.depth < recursionLimit)
    (hq : ∀ h' tk dx, InitEnd s.heap h' x C dx v → R (.ok (.ret .none)) { s with heap := h', toks := tk }) :
    codeAny (model prog w) A (.call (.ref fI) ⟨[.ref x, v], []⟩) R s := by
  obtain ⟨oc, od, doc, pm, an, ct, osl, ho⟩ := T.fn
  obtain ⟨ccl, cdd, vs, ccs, file, tf, hcode, hvs, hfile⟩ := T.code
  obtain ⟨cl, cld, csl, hcell⟩ := T.cell
  obtain ⟨cd, hc, hal⟩ := Option.bind_eq_some_iff.mp T.al
  have hCo : ∃ oC, K.lookup C = some oC ∧ oC.data = .cls cd := by
    unfold clsIn at hc
    split at hc
    · rename_i c d cd' sl hoC
      cases hc
      exact ⟨_, hoC, rfl⟩
    · cases hc
  obtain ⟨oC, hoC, hoCd⟩ := hCo
  obtain ⟨nm, N', qn, bs, bm, hdct, sn, sub, ab, col, dd, k0, k1, k2, k3, k5, hCx, hT⟩ := excInit_of X T.q
  have hxC : x ≠ C := fun z => by
    rw [z] at hx
    have e := X C oC hoC
    rw [hx] at e
    cases e
    cases hoCd
  have hloc : ∀ y ∈ ([("self", .ref x), ("word", v)] : List (Str × Value)), (L2.defScope K8.sBeyI).names.lookup y.1 = some .local := by
    intro y hy
    rcases List.mem_cons.mp hy with z | hy
    · subst z; rfl
    · rcases List.mem_cons.mp hy with z | hy
      · subst z; rfl
      · cases hy
  refine ks_codeAny_call_defAt (args := ⟨[.ref x, v], []⟩) (binds := [("self", .ref x), ("word", v)]) hroom (X _ _ ho) rfl hlim (codeRec_of X T.cd) rfl (BindsTo.of_eq (by first | rfl | with_unfolding_all rfl))
    (show ∀ y ∈ (L2.defScope K8.sBeyI).names, y.2 ≠ .cell by decide +kernel) hloc (fun h₁ hns k => ?_)
  have X₁ : K.In h₁ := X.keeps k
  have hx₁ := k _ _ hx
  refine ks_wpAt_execs_cons (ks_wpAt_Expr_any (ks_wpAt_MethodCall ?_))
  refine ks_wpAt_super_base rfl rfl (by decide) rfl (X₁ _ _ ho) rfl rfl rfl (X₁ _ _ hcode) rfl hvs hfile T.htop ?_
  obtain ⟨mb, hb1, hb2⟩ := B
  refine ks_loadName_global rfl rfl (loadGlobal_builtin (G.keeps k) T.sup (hb1.keeps k) ((hb2 _ (by decide +kernel)).trans (by first | boot_by_name | rfl | kernel_rfl)) ⟨rfl, ?_⟩)
  refine wpAny_loadName_free rfl rfl rfl ⟨_, X₁ _ _ hcell, rfl⟩ ?_
  refine wpAny_loadName_local rfl rfl hns (by first | rfl | with_unfolding_all rfl | kernel_rfl) ?_
  refine ks_wpAny_isType_cls (X₁ _ _ hoC) hoCd ⟨rfl, ?_⟩
  refine ks_wpAny_call_super (X₁ _ _ hoC) hoCd hx₁ rfl (fun c z => nomatch z) (looks_mroIn X₁ T.mro) (fun h₂ e₂ k₂ => ?_)
  have X₂ : K.In h₂ := X₁.keeps k₂
  have hx₂ := k₂ _ _ hx₁
  have hn₂ := hns.keeps k₂
  have I₂ : InstAt h₂ x (excObj C t0 none .none) C none := ⟨hx₂, rfl, rfl, trivial⟩
  refine ESX.getMethod_super e₂ (looks_opaque X₂ T.opq) (l₀ := cd.mro) (fun A Q E s k q => wpAny_bind ((looks_clsIn X₂ hc) A _ E s k (wpAny_pure q))) rfl X₂ hal hxC (by decide) (I₂.type.andThen (looks_subIn X₂ T.exE)) ?_
  have k₃ : ∀ b o, h₂.get? b = some o → (h₂.push (ESX.bw x)).get? b = some o := fun b o e => Heap.get?_push_of_some _ e
  have X₃ := X₂.keeps k₃
  have hx₃ := k₃ _ _ hx₂
  have hn₃ := hn₂.keeps k₃
  have hu₃ : (h₂.push (ESX.bw x)).get? h₂.objs.size = some (ESX.bw x) := Heap.get?_push_size _ rfl
  refine ESX.callWith_bound (x := x) ?_
  refine Calls.spliced_cons (ESX.ldL hn₃ (by first | rfl | with_unfolding_all rfl | kernel_rfl) (Calls.spliced_nil ⟨hu₃, ?_⟩))
  have hC₃ := k₃ _ _ (k₂ _ _ (k _ _ hCx))
  refine ESX.call_bw hC₃ hx₃ hu₃ (one_size v) (fun h₄ t1 k₄ hx₄ => ?_)
  have kk : ∀ b o, b ≠ x → s.heap.get? b = some o → h₄.get? b = some o := fun b o hb e => k₄ b o hb (k₃ _ _ (k₂ _ _ (k _ _ e)))
  have X₄ : K.In h₄ := fun a o e => kk a o (fun z => by rw [z, nxK] at e; cases e) (X a o e)
  have hL : s.heap.objs.size ≠ x := Nat.ne_of_gt (Heap.lt_size hx)
  have hn₄ : h₄.Ns s.heap.objs.size (fun y => ([("self", .ref x), ("word", v)] : List (Str × Value)).reverse.lookup y) := by
    obtain ⟨o, es, ep, ho', r⟩ := hn₃
    exact ⟨o, es, ep, k₄ _ _ hL ho', r⟩
  show _root_.PySem.wpAt _ _ _ (execs _ _) _ _ _
  refine wpAt_of_wpAny (wpAny_execs_cons (plainObj_wpAny_Assign_Attribute ?_))
  refine ldC hn₄ (by first | rfl | with_unfolding_all rfl | kernel_rfl) (ldC hn₄ (by first | rfl | with_unfolding_all rfl | kernel_rfl) ?_)
  refine set_plain X₄ (ox := excObj C t1 none .none) (od := none) ⟨hx₄, rfl, rfl, trivial⟩ T.sa ?_
  refine bey_store T X₄ hx₄ fun h₅ tk₅ F => ?_
  refine wpAny_execs_nil (hq h₅ tk₅ _ ⟨fun b o hb e => F.keep b o hb (kk b o hb e), F.obj, ?_, F.dne, F.ns⟩)
  have z : s.heap.objs.size < h₄.objs.size := hn₄.lt
  exact Nat.le_of_lt z
/-- a made Beyond -/
structure Made (h h' : Heap) (e C d : Addr) (v : Value) : Prop where
  keep : ∀ b o, h.get? b = some o → h'.get? b = some o
  new : h.objs.size ≤ e
  obj : ∃ oe vs, h'.get? e = some oe ∧ oe.cls = .ref C ∧ oe.dict = some d ∧ oe.data = .fields vs ∧ vs[1]? = some .none
  dbig : h.objs.size ≤ d
  dne : d ≠ e
  ns : h'.Ns1 d (fun y => if y = "word" then some v else none)
theorem bey_made (T : BeyTxt prog K mg C fI cc cda) {v : Value} (X : K.In s.heap) (G : s.heap.Ns mainGlobals mg) (B : ∃ mb, s.heap.Ns builtinsNs mb ∧ ∀ x : Str, x ≠ "__name__" → mb x = bootBuiltins x)
    (hlim : s.heap.NoLimit) (hroom : A.depth + 1 < recursionLimit)
    (hq : ∀ h' tk e d, Made s.heap h' e C d v → R (.ok (.ret (.ref e))) { s with heap := h', toks := tk }) :
    codeAny (model prog w) A (.call (.ref C) ⟨[v], []⟩) R s := by
  obtain ⟨nm, N', qn, bs, bm, hdct, sn, sub, ab, col, dd, k0, k1, k2, k3, k5, hC, hT⟩ := excInit_of X T.q
  obtain ⟨hp, g, dr, tk, os⟩ := s
  have k : ∀ b o, hp.get? b = some o → ((hp.push (kdv_tup [v])).push (excO C hp.objs.size)).get? b = some o := fun b o e => Heap.get?_push_of_some _ (Heap.get?_push_of_some _ e)
  have hget : ((hp.push (kdv_tup [v])).push (excO C hp.objs.size)).get? (hp.objs.size + 1) = some (excO C hp.objs.size) := by heap_get
  have hnx : K.lookup (hp.objs.size + 1) = none := by
    cases e : K.lookup (hp.objs.size + 1) with
    | none => rfl
    | some o =>
      have z : hp.get? (hp.objs.size + 1) = some o := X _ _ e
      exact absurd (Nat.lt_of_succ_lt (Heap.lt_size z)) (Nat.lt_irrefl _)
  refine HandSPX.call_own PySem.F.excBase_Exception hT hC (looks_findIn X T.ini) (fun self => bind_fn X self T.tI) (one_size v) ?_
  obtain ⟨mb, hb1, hb2⟩ := B
  refine bey_init (s := ⟨(hp.push (kdv_tup [v])).push (excO C hp.objs.size), g, dr, tk, os⟩) T (X.keeps k) (G.keeps k) ⟨mb, hb1.keeps k, hb2⟩ (hlim.keeps k) hget hnx ?_ fun h' tk' dx F => ?_
  · show A.depth + 1 < recursionLimit
    exact hroom
  · have old : ∀ b o, hp.get? b = some o → h'.get? b = some o := fun b o e => F.keep b o (Nat.ne_of_lt (Nat.lt_succ_of_lt (Heap.lt_size e))) (k b o e)
    have z : hp.objs.size + 1 + 1 ≤ dx := by
      have q := F.dbig
      rw [Heap.size_push, Heap.size_push] at q
      exact q
    obtain ⟨t1, hx⟩ := F.obj
    exact ⟨rfl, hq h' tk' (hp.objs.size + 1) dx ⟨old, Nat.le_succ _, ⟨_, _, hx, rfl, rfl, rfl, rfl⟩, Nat.le_trans (Nat.le_trans (Nat.le_succ _) (Nat.le_succ _)) z, F.dne, F.ns⟩⟩
end
end K8X
namespace L2
open PySem PySem.Spec PyProof.Rows
theorem relO_word {v : V} {v' : Value} (r : RelV v v') (f : Str) : RelO (List.lookup f [(("word" : Str), v)]) (if f = "word" then some v' else none) := by
  by_cases hw : f = "word"
  · subst hw
    rw [if_pos rfl]
    have q : List.lookup ("word" : Str) [(("word" : Str), v)] = some v := by simp [List.lookup]
    rw [q]
    exact r
  · rw [if_neg hw]
    have qw : (f == ("word" : Str)) = false := by simpa using hw
    have q2 : List.lookup f [(("word" : Str), v)] = none := by simp [List.lookup, qw]
    rw [q2]
    trivial
section
variable {X : Cx} {C fI cc cda : Addr}
/-- Beyond(e) -/
def tMkBey (C : Addr) (ta : TA) : St → Hp → XK → Prop := fun σ H Q => ta σ H fun vs H1 => ∃ v, vs = [v] ∧ ∀ d, H1 d = none → Q (.ref C) (some d) (upd H1 d (.xd [(("word" : Str), v)]))
theorem pmk_bey {a : Expr} {ta : TA} {p pos : Pos} {k : Nat} (T : K8X.BeyTxt X.prog X.K X.mg C fI cc cda) (hr : Room k X.A) (ha : PA X [a] ta) (hg : Gl X "Beyond" := by rfl)
    (he : starEach (a :: []) X.env = (false, eval a X.env) :: starEach [] X.env := by rfl) (hpl : (backTo pos (starEach [] X.env)).any (·.1) = false := by rfl) :
    PMk X (.Call (.Name "Beyond" p) [a] [] pos) (tMkBey C ta) := by
  intro pins s σ H Q I h
  refine wpAny_Call_Name_kw (ld_glob I hg T.gC ?_)
  refine PySem.W.callWith_K (h₀ := X.base) I.ok.mod.kin T.kC (thn (ha.run pos pins s σ H _ I h) fun us s1 hh => ?_) he hpl
  obtain ⟨vs, H1, I1, r1, v, ev, q1⟩ := hh
  subst ev
  refine ⟨I1.kIn, ?_⟩
  cases r1 with
  | cons rv rn =>
    rename_i v' us'
    cases rn
    show wpAny _ _ (call (.ref C) [v']) _ _ _
    have hlim := I1.nolimit
    obtain ⟨mb, hb1, hb2⟩ := I1.mod.blt
    have GG := I1.mod.glob.keeps I1.bk
    have BB := hb1.keeps I1.bk
    obtain ⟨hp, g, d, tk, os⟩ := s1
    refine wpAny_call (K8X.bey_made T I1.kIn GG ⟨mb, BB, hb2⟩ hlim (by have := hr.dp; omega) fun h' tk' e d M => ?_)
    show MkP X pins σ Q (.ref e) ⟨h', g, _, tk', os⟩
    obtain ⟨oe, fv, hoe, hc, hd, hdat, h1⟩ := M.obj
    have hns := M.ns
    obtain ⟨G', g1, g2⟩ := restrict h' fun b => decide (b ≠ e)
    have gk : ∀ b, b ≠ e → G'.get? b = h'.get? b := fun b hb => g1 b (decide_eq_true hb)
    have ge : G'.get? e = none := g2 e (by simp)
    have old : ∀ b o, hp.get? b = some o → G'.get? b = some o := fun b o q => (gk b (Nat.ne_of_lt (Nat.lt_of_lt_of_le (Heap.lt_size q) M.new))).trans (M.keep b o q)
    have ob : ObjOk X.prog X.w (upd H1 d (.xd [(("word" : Str), v)])) G' d (.xd [(("word" : Str), v)]) :=
      ⟨_, hns.at (fun o q => (gk d M.dne).trans q), fun f => relO_word rv f⟩
    have J := I1.laid (t' := tk') old M.dbig ob
    refine ⟨e, oe, fv, _, _, .ref C, some d, rfl, J, fun b o q => ?_, ge, hoe, ⟨hc, hd⟩, hdat, h1, ?_, rfl, I1.bare, raises_own T.exB T.tyC, q1 d (I1.hok.fresh M.dbig)⟩
    · by_cases hb : b = e
      · have q' : G'.get? b = some o := q
        rw [hb, ge] at q'; cases q'
      · exact (gk b hb).symm.trans q
    · rw [upd_ne (Ne.symm M.dne)]
      exact I1.hok.fresh M.new
/-- raise Beyond(e) -/
def tRaiseBey (C : Addr) (W : WX) (ta : TA) : TS := fun _ σ H => tMkBey C ta σ H fun cls d H' => W cls d σ H'
theorem ps_raiseBey {a : Expr} {ta : TA} {W : WX} {p pos pos2 : Pos} {k : Nat} (hc : X.calm = true) (T : K8X.BeyTxt X.prog X.K X.mg C fI cc cda) (hr : Room k X.A) (tk : Takes X W) (ha : PA X [a] ta) (hg : Gl X "Beyond" := by rfl)
    (he : starEach (a :: []) X.env = (false, eval a X.env) :: starEach [] X.env := by rfl) (hpl : (backTo pos (starEach [] X.env)).any (·.1) = false := by rfl) :
    PS X (.Raise (some (.Call (.Name "Beyond" p) [a] [] pos)) none pos2) (tRaiseBey C W ta) := ps_raise hc tk (pmk_bey T hr ha hg he hpl)

/-! ### isinstance(e, c), e the error of the suite, with its dict -/
structure XisC (K : PySem.W.Frag) (D : Addr) : Prop where
  cl : (PySem.W.clsIn K D).isSome = true
  hg : PySem.W.findIn K (.ref D) "__getattribute__" = some (some (.builtin "BaseException.__getattribute__"))
  hk : PySem.W.findIn K (.ref D) "__getattr__" = some none
  hs : PySem.W.subIn K (.ref D) (.type "BaseException") = some true
  ha : PySem.W.findIn K (.ref D) "__class__" = some (some (.builtin "object.__class__"))
  hn : PySem.W.specialIn K (.builtin "object.__class__") "__get__" = some (some (.builtin "getset_descriptor.__get__"))
  ht : PySem.W.takesIn K (.builtin "object.__class__") = some true
  hm : PySem.W.mroIn K D (.type "object") = some true
/-- isinstance(e, c): cls and d are the error's class and dict -/
def rIsX (K : PySem.W.Frag) (D a : Addr) (cls : Value) (d : Option Addr) : List V → Hp → VK → Prop := fun xs H Q => ∃ (c : V) (cv : Value) (b : Bool) (dd : Addr) (fs : List (Str × V)), xs = [.ref a, c] ∧ cls = .ref D ∧ d = some dd ∧ H dd = some (.xd fs) ∧ (∀ u, RelV c u → u = cv) ∧ PySem.W.kitOne K (.ref D) cv = some b ∧ Q (.bl b) H
theorem call_isX {a D : Addr} {cls : Value} {d : Option Addr} {oe : Obj} {pn : List (Addr × Obj)} (T : XisC X.K D) (hz : Zc cls d oe) (hf : ∃ vs, oe.data = .fields vs) : CallR (X.suite a ((a, oe) :: pn)) (.builtin "isinstance") (rIsX X.K D a cls d) := by
  intro pins s σ H xs us Q I r h
  obtain ⟨c, cv, b, dd, fs, rfl, ec, ed, hH, hcv, e, q⟩ := h
  subst ec
  subst ed
  cases r with
  | cons rx rr =>
    cases rr with
    | cons rt rr =>
      cases rr
      cases rx
      have ec := hcv _ rt
      subst ec
      obtain ⟨hget, _⟩ := I.pin (a, oe) (List.mem_append.mpr (.inl List.mem_cons_self))
      obtain ⟨vs, hv⟩ := hf
      have hx : ObjOk X.prog X.w H s.heap dd (.xd fs) := I.hok dd _ hH
      obtain ⟨mA, hns, hr⟩ := hx
      obtain ⟨od, ho, hl⟩ := lookIn_ns hns
      have J : PySem.W.InstAt s.heap a oe D (some od) := ⟨hget, hz.1, by unfold PySem.W.notCls; rw [hv] <;> rfl, by rw [hz.2]; exact ho⟩
      exact PySem.W.kia_one (PySem.W.kitx_exc T.cl T.hg T.hk T.hs T.ha T.hn T.ht T.hm) I.kIn J e (fun z => nomatch z) fun tk => ⟨.bl b, H, I.kept (t' := tk) fun _ _ z => z, rfl, q⟩
end
end L2

/-! Words that all defs share: symbols as values, defs that are known. -/
namespace K8
open PySem PySem.Spec PyProof.Rows L2
/-- a symbol as a value -/
def vG (g : G) : V := .int (g.n : Int)
def vO : Option G → V
  | none => .non
  | some g => vG g
theorem xor_G (a b : G) : Builtin.bitXor (a.n : Int) (b.n : Int) = ((a + b).n : Int) := by
  rw [Bits.bitXor_pp (Int.natCast_nonneg _) (Int.natCast_nonneg _), Int.toNat_natCast, Int.toNat_natCast]
  rfl
theorem xor_N (a b : Nat) : Builtin.bitXor (a : Int) (b : Int) = ((a ^^^ b : Nat) : Int) := by
  rw [Bits.bitXor_pp (Int.natCast_nonneg _) (Int.natCast_nonneg _), Int.toNat_natCast, Int.toNat_natCast]
/-- a def of the text that keeps its promise, and how it is called -/
structure Kn (P : Program) (w : World) (K : PySem.W.Frag) (mg : Str → Option Value) (base : Heap) (CX : CXT) (k : Nat) (name : Str) (ps : List Str) (sp : Sp) : Prop where
  ex : ∃ (f : Addr) (fd : FuncData), FnOk P w K mg base CX k f fd ps sp ∧ mg name = some (.ref f) ∧ PySem.W.keepIn K (.ref f) = true ∧ Binds K fd ps []
section
variable {P : Program} {w : World} {K : PySem.W.Frag} {mg : Str → Option Value} {base : Heap}
theorem Kn.of {CX : CXT} {k : Nat} {name : Str} {st : Stmt} {ps : List Str} {sp : Sp} {f : Addr} {fd : FuncData} (F : Fun K name name st f fd) (h : FnOk P w K mg base CX k f fd ps sp) (m : mg name = some (.ref f)) (b : Binds K fd ps []) : Kn P w K mg base CX k name ps sp :=
  ⟨f, fd, h, m, F.kp, b⟩
end
section
variable {X : Cx} {CX : CXT} {k : Nat} {ps : List Str} {sp : Sp} {E : XK} {x : Str} {p pos : Pos} {e : Expr} {es : List Expr} {t : TA}
/-- f(e, ..) of a known def -/
theorem pe_kn (N : Kn X.prog X.w X.K X.mg X.base CX k x ps sp) (hr : Room k X.A) (hx : Passes CX X E) (ha : PA X (e :: es) t) (hg : Gl X x := by rfl) (hdb : (x == ("__debug__" : Str)) = false := by decide)
    (he : starEach (e :: es) X.env = (false, eval e X.env) :: starEach es X.env := by rfl) (hpl : (backTo pos (starEach es X.env)).any (·.1) = false := by rfl) :
    PE X (.Call (.Name x p) (e :: es) [] pos) (tCall sp [] E t) := by
  obtain ⟨f, fd, F, m, kp, b⟩ := N.ex
  exact pe_call F hr hg m kp b .nil hx ha hdb he hpl
/-- .. of one that lets nothing out -/
theorem pe_k0 (N : Kn X.prog X.w X.K X.mg X.base CX0 k x ps sp) (hr : Room k X.A) (ha : PA X (e :: es) t) (hg : Gl X x := by rfl) (hdb : (x == ("__debug__" : Str)) = false := by decide)
    (he : starEach (e :: es) X.env = (false, eval e X.env) :: starEach es X.env := by rfl) (hpl : (backTo pos (starEach es X.env)).any (·.1) = false := by rfl) :
    PE X (.Call (.Name x p) (e :: es) [] pos) (tCall sp [] E0 t) := pe_kn N hr pass0 ha hg hdb he hpl
end

/-! ### operators on numbers from nought -/
section
variable {X : Cx}
theorem opr_imp {f : Value → Value → Sem Value} {r r' : R2} (h : OpR X f r) (i : ∀ x y H Q, r' x y H Q → r x y H Q) : OpR X f r' := fun pins s σ H x y v u Q I rx ry hq => h pins s σ H x y v u Q I rx ry (i x y H Q hq)
def rXorN : R2 := fun x y H Q => ∃ a b : Nat, x = .int a ∧ y = .int b ∧ Q (.int ((a ^^^ b : Nat) : Int)) H
theorem op_xorN : OpR X (binaryOp .BitXor) rXorN := opr_imp op_xor fun x y H Q ⟨a, b, e1, e2, q⟩ => ⟨_, _, e1, e2, by
  show Q (.int (Builtin.bitXor (a : Int) (b : Int))) H
  rw [xor_N]
  exact q⟩
def rAnd1 : R2 := fun x y H Q => ∃ a : Nat, x = .int a ∧ y = .int 1 ∧ Q (.int ((a % 2 : Nat) : Int)) H
theorem op_and1 : OpR X (binaryOp .BitAnd) rAnd1 := opr_imp op_and fun x y H Q ⟨a, e1, e2, q⟩ => ⟨_, _, e1, e2, by
  show Q (.int (Builtin.bitAnd (a : Int) 1)) H
  rw [bitAnd_m1, show ((a : Int) % 2) = ((a % 2 : Nat) : Int) by omega]
  exact q⟩
def rShl1 : R2 := fun x y H Q => ∃ a : Nat, x = .int a ∧ y = .int 1 ∧ a < 1000 ∧ Q (.int ((a * 2 : Nat) : Int)) H
theorem op_shl1 : OpR X (binaryOp .LShift) rShl1 := opr_imp op_shl fun x y H Q ⟨a, e1, e2, l, q⟩ => ⟨_, _, e1, e2, ⟨by decide, by decide, by rw [Int.natAbs_natCast]; omega⟩, by
  show Q (.int ((a : Int) * 2 ^ (1 : Int).toNat)) H
  rw [show (a : Int) * 2 ^ (1 : Int).toNat = ((a * 2 : Nat) : Int) by simp]
  exact q⟩
def rShr1 : R2 := fun x y H Q => ∃ a : Nat, x = .int a ∧ y = .int 1 ∧ Q (.int ((a / 2 : Nat) : Int)) H
theorem op_shr1 : OpR X (binaryOp .RShift) rShr1 := opr_imp op_shr fun x y H Q ⟨a, e1, e2, q⟩ => ⟨_, _, e1, e2, (show (0 : Int) ≤ 1 by decide), by
  show Q (.int ((a : Int) / 2 ^ (1 : Int).toNat)) H
  rw [show (a : Int) / 2 ^ (1 : Int).toNat = ((a / 2 : Nat) : Int) by simp]
  exact q⟩
def rGtN : R2 := fun x y H Q => ∃ a b : Nat, x = .int a ∧ y = .int b ∧ Q (.bl (decide (b < a))) H
theorem op_gtN : OpR X (compareOp .Gt) rGtN := opr_imp op_gt fun x y H Q ⟨a, b, e1, e2, q⟩ => ⟨_, _, e1, e2, by
  show Q (.bl (decide ((b : Int) < (a : Int)))) H
  rw [show decide ((b : Int) < (a : Int)) = decide (b < a) by simp]
  exact q⟩
def rLtN : R2 := fun x y H Q => ∃ a b : Nat, x = .int a ∧ y = .int b ∧ Q (.bl (decide (a < b))) H
theorem op_ltN : OpR X (compareOp .Lt) rLtN := opr_imp op_lt fun x y H Q ⟨a, b, e1, e2, q⟩ => ⟨_, _, e1, e2, by
  show Q (.bl (decide ((a : Int) < (b : Int)))) H
  rw [show decide ((a : Int) < (b : Int)) = decide (a < b) by simp]
  exact q⟩
def rEqN : R2 := fun x y H Q => ∃ a b : Nat, x = .int a ∧ y = .int b ∧ Q (.bl (decide (a = b))) H
theorem dec_intN (a b : Nat) : decide (V.int (a : Int) = V.int (b : Int)) = decide (a = b) := by
  by_cases e : a = b
  · subst e; simp
  · rw [decide_eq_false e, decide_eq_false (fun z => e (by have := V.int.inj z; omega))]
theorem op_eqN : OpR X (compareOp .Eq) rEqN := opr_imp op_eq fun x y H Q ⟨a, b, e1, e2, q⟩ => by
  subst e1 e2
  refine ⟨rfl, ?_⟩
  rw [dec_intN]
  exact q
def rNeN : R2 := fun x y H Q => ∃ a b : Nat, x = .int a ∧ y = .int b ∧ Q (.bl (!decide (a = b))) H
theorem op_neN : OpR X (compareOp .NotEq) rNeN := opr_imp op_ne fun x y H Q ⟨a, b, e1, e2, q⟩ => by
  subst e1 e2
  refine ⟨rfl, ?_⟩
  rw [dec_intN]
  exact q
def rAddN : R2 := fun x y H Q => ∃ a b : Nat, x = .int a ∧ y = .int b ∧ Q (.int ((a + b : Nat) : Int)) H
theorem op_addN : OpR X (binaryOp .Add) rAddN := opr_imp op_add fun x y H Q ⟨a, b, e1, e2, q⟩ => ⟨_, _, e1, e2, by
  show Q (.int ((a : Int) + (b : Int))) H
  rw [show (a : Int) + (b : Int) = ((a + b : Nat) : Int) by simp]
  exact q⟩
def rSubN : R2 := fun x y H Q => ∃ a b : Nat, x = .int a ∧ y = .int b ∧ b ≤ a ∧ Q (.int ((a - b : Nat) : Int)) H
theorem op_subN : OpR X (binaryOp .Sub) rSubN := opr_imp op_sub fun x y H Q ⟨a, b, e1, e2, l, q⟩ => ⟨_, _, e1, e2, by
  show Q (.int ((a : Int) - (b : Int))) H
  rw [show (a : Int) - (b : Int) = ((a - b : Nat) : Int) by omega]
  exact q⟩
def rMulN : R2 := fun x y H Q => ∃ a b : Nat, x = .int a ∧ y = .int b ∧ a < 100000 ∧ Q (.int ((a * b : Nat) : Int)) H
theorem op_mulN : OpR X (binaryOp .Mult) rMulN := opr_imp op_mul fun x y H Q ⟨a, b, e1, e2, l, q⟩ => ⟨_, _, e1, e2, .inl ⟨by omega, by omega⟩, by
  show Q (.int ((a : Int) * (b : Int))) H
  rw [show (a : Int) * (b : Int) = ((a * b : Nat) : Int) by simp]
  exact q⟩
end
/-- a written number as a Nat -/
theorem nat0 : (V.int 0) = V.int ((0 : Nat) : Int) := rfl
theorem ite2N {p A B : Prop} [Decidable p] (h1 : p → A) (h2 : ¬ p → B) : if decide p = true then A else B := by
  by_cases h : p
  · rw [decide_eq_true h]
    exact h1 h
  · rw [decide_eq_false h]
    exact h2 h

/-! ### the field's defs -/
def spAdded : Sp := fun vs H Q _ => ∃ a b : G, vs = [vG a, vG b] ∧ Q (vG (a + b)) H
def spTimes : Sp := fun vs H Q _ => ∃ a b : G, vs = [vG a, vG b] ∧ Q (vG (a * b)) H
def spInverse : Sp := fun vs H Q _ => ∃ a : G, vs = [vG a] ∧ a ≠ 0 ∧ Q (vG a.inv) H
def spOver : Sp := fun vs H Q _ => ∃ a b : G, vs = [vG a, vG b] ∧ b ≠ 0 ∧ Q (vG (a * b.inv)) H
def spPower : Sp := fun vs H Q _ => ∃ a : G, vs = [vG a, .int 126] ∧ Q (vG a.inv) H
section
variable {P : Program} {w : World} {K : PySem.W.Frag} {mg : Str → Option Value} {base : Heap}
theorem ok_added {f : Addr} {fd : FuncData} (F : Fun K "added" "added" sAdded f fd) : FnOk P w K mg base CX0 1 f fd ["a", "b"] spAdded := by
  refine F.ok scAdded (fun vs H Q E h => ?_) (fun cdv A outer s H vs Q E hr h => ?_)
  · obtain ⟨a, b, rfl, _⟩ := h
    rfl
  · obtain ⟨a, b, rfl, q⟩ := h
    refine ⟨_, pss_one (ps_ret (pe_op op_xorN (pv 0) (pv 1))), ?_⟩
    exact ⟨_, rfl, _, rfl, a.n, b.n, rfl, rfl, q⟩
theorem ok_times {f : Addr} {fd : FuncData} (F : Fun K "times" "times" sTimes f fd) (mM : ∃ t, mg "MODULUS" = some (.int 131 t)) : FnOk P w K mg base CX0 1 f fd ["a", "b"] spTimes := by
  refine F.ok scTimes (fun vs H Q E h => ?_) (fun cdv A outer s H vs Q E hr h => ?_)
  · obtain ⟨a, b, rfl, _⟩ := h
    rfl
  · obtain ⟨a, b, rfl, q⟩ := h
    obtain ⟨t, hM⟩ := mM
    refine ⟨_, pss_cons (ps_set (i := 2) scTimes.nd rfl (Or.inl rfl) pe_int)
      (pss_cons (ps_while PassesOwn.never (pt_cmpR op_gtN (pv 1) pe_int (nomark _))
        (pss_cons (ps_if (pt_cmpR op_eqN (pe_op op_and1 (pv 1) pe_int) pe_int (nomark _)) (pss_one (ps_set (i := 2) scTimes.nd rfl (Or.inl rfl) (pe_op op_xorN (pv 2) (pv 0)))) pss_nil)
        (pss_cons (ps_set (i := 0) scTimes.nd rfl (Or.inl rfl) (pe_op op_shl1 (pv 0) pe_int))
        (pss_cons (ps_if (pt_cmpR op_gtN (pv 0) pe_int (nomark _)) (pss_one (ps_set (i := 0) scTimes.nd rfl (Or.inl rfl) (pe_op op_xorN (pv 0) (pe_glob (v := .int 131) rfl hM ⟨_, rfl⟩)))) pss_nil)
        (pss_one (ps_set (i := 1) scTimes.nd rfl (Or.inl rfl) (pe_op op_shr1 (pv 1) pe_int)))))))
      (pss_one (ps_ret (pv 2)))), ?_⟩
    refine ⟨fun y σ H' => ∃ (x z n : Nat), σ = [some (.int x), some (.int y), some (.int z)] ∧ H' = H ∧ x < 128 ∧ z < 128 ∧ y < 2 ^ n ∧ tloop n y x z = mulN a.n b.n,
      ⟨b.n, a.n, 0, 7, rfl, rfl, a.lt, by decide, b.lt, rfl⟩, ?_⟩
    rintro y σ H' ⟨x, z, n, rfl, rfl, hx, hz, hy, e⟩
    refine ⟨_, rfl, y, 0, rfl, rfl, _, rfl, ite2N (fun c => ?_) (fun c => ?_)⟩
    · obtain ⟨k, rfl⟩ : ∃ k, n = k + 1 := by
        cases n with
        | zero => simp at hy; omega
        | succ k => exact ⟨k, rfl⟩
      have hy2 : y / 2 < 2 ^ k := by
        rw [Nat.pow_succ] at hy
        omega
      refine ⟨fun σ' H2 => ∃ m', m' < y ∧ ∃ (x z n : Nat), σ' = [some (.int x), some (.int m'), some (.int z)] ∧ H2 = H' ∧ x < 128 ∧ z < 128 ∧ m' < 2 ^ n ∧ tloop n m' x z = mulN a.n b.n, fun σ' H2 h => h, ?_⟩
      -- the turn's end, whatever the total and a were
      have fin : ∀ (x' z' : Nat), x' = xt x → z' = (if y % 2 = 1 then z ^^^ x else z) → ∃ m', m' < y ∧ ∃ (x z n : Nat), [some (V.int x'), some (V.int ((y / 2 : Nat) : Int)), some (V.int z')] = [some (V.int x), some (V.int m'), some (V.int z)] ∧ H' = H' ∧ x < 128 ∧ z < 128 ∧ m' < 2 ^ n ∧ tloop n m' x z = mulN a.n b.n := by
        intro x' z' ex ez
        refine ⟨y / 2, by omega, x', z', k, rfl, rfl, by rw [ex]; exact xt_lt hx, ?_, hy2, ?_⟩
        · rw [ez]
          split
          · exact xor_lt hz hx
          · exact hz
        · rw [ex, ez]
          exact e
      refine ⟨_, rfl, y, rfl, rfl, _, 1, rfl, rfl, _, rfl, ite2N (fun c1 => ?_) (fun c1 => ?_)⟩
      · refine ⟨_, rfl, _, rfl, z, x, rfl, rfl, ?_⟩
        refine ⟨_, rfl, x, rfl, rfl, by omega, _, rfl, x * 2, 127, rfl, rfl, _, rfl, ite2N (fun c2 => ?_) (fun c2 => ?_)⟩
        · refine ⟨_, rfl, x * 2, 131, rfl, rfl, _, rfl, y, rfl, rfl, ?_⟩
          exact fin (x * 2 ^^^ 131) (z ^^^ x) (if_pos c2).symm (if_pos c1).symm
        · refine ⟨_, rfl, y, rfl, rfl, ?_⟩
          exact fin (x * 2) (z ^^^ x) (if_neg c2).symm (if_pos c1).symm
      · refine ⟨_, rfl, x, rfl, rfl, by omega, _, rfl, x * 2, 127, rfl, rfl, _, rfl, ite2N (fun c2 => ?_) (fun c2 => ?_)⟩
        · refine ⟨_, rfl, x * 2, 131, rfl, rfl, _, rfl, y, rfl, rfl, ?_⟩
          exact fin (x * 2 ^^^ 131) z (if_pos c2).symm (if_neg c1).symm
        · refine ⟨_, rfl, y, rfl, rfl, ?_⟩
          exact fin (x * 2) z (if_neg c2).symm (if_neg c1).symm
    · have hy0 : y = 0 := by omega
      subst hy0
      rw [tloop_zero] at e
      subst e
      exact ⟨_, rfl, q⟩
theorem ok_power {f : Addr} {fd : FuncData} (F : Fun K "power" "power" sPower f fd) (NT : Kn P w K mg base CX0 1 "times" ["a", "b"] spTimes) : FnOk P w K mg base CX0 2 f fd ["a", "n"] spPower := by
  refine F.ok scPower (fun vs H Q E h => ?_) (fun cdv A outer s H vs Q E hr h => ?_)
  · obtain ⟨a, rfl, _⟩ := h
    rfl
  · obtain ⟨a, rfl, q⟩ := h
    refine ⟨_, pss_cons (ps_set (i := 2) scPower.nd rfl (Or.inl rfl) pe_int)
      (pss_cons (ps_while PassesOwn.never (pt_cmpR op_gtN (pv 1) pe_int (nomark _))
        (pss_cons (ps_if (pt_cmpR op_eqN (pe_op op_and1 (pv 1) pe_int) pe_int (nomark _)) (pss_one (ps_set (i := 2) scPower.nd rfl (Or.inl rfl) (pe_k0 NT hr (pa_cons (pv 2) (pa_cons (pv 0) pa_nil))))) pss_nil)
        (pss_cons (ps_set (i := 0) scPower.nd rfl (Or.inl rfl) (pe_k0 NT hr (pa_cons (pv 0) (pa_cons (pv 0) pa_nil))))
        (pss_one (ps_set (i := 1) scPower.nd rfl (Or.inl rfl) (pe_op op_shr1 (pv 1) pe_int))))))
      (pss_one (ps_ret (pv 2)))), ?_⟩
    refine ⟨fun y σ H' => ∃ (x z : G) (n : Nat), σ = [some (vG x), some (.int y), some (vG z)] ∧ H' = H ∧ y < 2 ^ n ∧ ploop n y x.n z.n = a.inv.n,
      ⟨126, a, 1, 7, rfl, rfl, by decide, rfl⟩, ?_⟩
    rintro y σ H' ⟨x, z, n, rfl, rfl, hy, e⟩
    refine ⟨_, rfl, y, 0, rfl, rfl, _, rfl, ite2N (fun c => ?_) (fun c => ?_)⟩
    · obtain ⟨k, rfl⟩ : ∃ k, n = k + 1 := by
        cases n with
        | zero => simp at hy; omega
        | succ k => exact ⟨k, rfl⟩
      have hy2 : y / 2 < 2 ^ k := by
        rw [Nat.pow_succ] at hy
        omega
      have e' : ploop k (y / 2) (mulN x.n x.n) (if y % 2 = 1 then mulN z.n x.n else z.n) = a.inv.n := e
      refine ⟨fun σ' H2 => ∃ m', m' < y ∧ ∃ (x z : G) (n : Nat), σ' = [some (vG x), some (.int m'), some (vG z)] ∧ H2 = H' ∧ m' < 2 ^ n ∧ ploop n m' x.n z.n = a.inv.n, fun σ' H2 h => h, ?_⟩
      refine ⟨_, rfl, y, rfl, rfl, _, 1, rfl, rfl, _, rfl, ite2N (fun c1 => ?_) (fun c1 => ?_)⟩
      · rw [if_pos c1] at e'
        refine ⟨_, rfl, _, rfl, z, x, rfl, ?_⟩
        refine ⟨_, rfl, _, rfl, x, x, rfl, ?_⟩
        refine ⟨_, rfl, y, rfl, rfl, y / 2, by omega, x * x, z * x, k, rfl, rfl, hy2, e'⟩
      · rw [if_neg c1] at e'
        refine ⟨_, rfl, _, rfl, x, x, rfl, ?_⟩
        refine ⟨_, rfl, y, rfl, rfl, y / 2, by omega, x * x, z, k, rfl, rfl, hy2, e'⟩
    · have hy0 : y = 0 := by omega
      subst hy0
      rw [ploop_zero] at e
      have ez : z = a.inv := G.ext' e
      subst ez
      exact ⟨_, rfl, q⟩
theorem ok_inverse {f : Addr} {fd : FuncData} (F : Fun K "inverse" "inverse" sInverse f fd) (NP : Kn P w K mg base CX0 2 "power" ["a", "n"] spPower) : FnOk P w K mg base CX0 3 f fd ["a"] spInverse := by
  refine F.ok scInverse (fun vs H Q E h => ?_) (fun cdv A outer s H vs Q E hr h => ?_)
  · obtain ⟨a, rfl, _⟩ := h
    rfl
  · obtain ⟨a, rfl, ha, q⟩ := h
    refine ⟨_, pss_cons (ps_if (pt_cmpR op_eqN (pv 0) pe_int (nomark _)) (pss_one ps_never) pss_nil)
      (pss_one (ps_ret (pe_k0 NP hr (pa_cons (pv 0) (pa_cons pe_int pa_nil))))), ?_⟩
    refine ⟨_, rfl, a.n, 0, rfl, rfl, _, rfl, ite2N (fun c => ha (G.ext' c)) (fun c => ?_)⟩
    exact ⟨_, rfl, a, rfl, q⟩
theorem ok_over {f : Addr} {fd : FuncData} (F : Fun K "over" "over" sOver f fd) (NT : Kn P w K mg base CX0 1 "times" ["a", "b"] spTimes) (NI : Kn P w K mg base CX0 3 "inverse" ["a"] spInverse) : FnOk P w K mg base CX0 4 f fd ["a", "b"] spOver := by
  refine F.ok scOver (fun vs H Q E h => ?_) (fun cdv A outer s H vs Q E hr h => ?_)
  · obtain ⟨a, b, rfl, _⟩ := h
    rfl
  · obtain ⟨a, b, rfl, hb, q⟩ := h
    refine ⟨_, pss_cons (ps_if (pt_cmpR op_eqN (pv 1) pe_int (nomark _)) (pss_one ps_never) pss_nil)
      (pss_one (ps_ret (pe_k0 NT (hr.mono (by decide)) (pa_cons (pv 0) (pa_cons (pe_k0 NI hr (pa_cons (pv 1) pa_nil)) pa_nil))))), ?_⟩
    refine ⟨_, rfl, b.n, 0, rfl, rfl, _, rfl, ite2N (fun c => hb (G.ext' c)) (fun c => ?_)⟩
    exact ⟨_, rfl, _, rfl, b, rfl, hb, a, b.inv, rfl, q⟩
end
end K8

set_option maxHeartbeats 1000000
/-! The defs of the module polys, walked. -/
namespace K8
open PySem PySem.Spec PyProof.Rows L2 K8R

/-! ### heaps -/
theorem sameNew {H H' : Hp} {p : Addr} {o : HO} (s : Same H H') (n : H' p = none) : Same H (upd H' p o) := fun b x e => by
  have e' := s b x e
  rw [upd_ne (ne_of_none e' n)]
  exact e'
theorem sameWr {H H' : Hp} {p : Addr} {o : HO} (s : Same H H') (n : H p = none) : Same H (upd H' p o) := fun b x e => by
  rw [upd_ne (ne_of_none e n)]
  exact s b x e
theorem sameT {K : PySem.W.Frag} {H H' : Hp} {a : Addr} {xs : List V} (e : Same H H') (h : SqT K H a xs) : SqT K H' a xs := by
  rcases h with (h | ⟨o, h⟩) | h
  · exact .inl (.inl (e _ _ h))
  · exact .inl (.inr ⟨o, e _ _ h⟩)
  · exact .inr h
theorem line_of {n : Nat} (h : n ≤ 1000) : n ≤ sizeLine := Nat.le_of_lt (small1000 h)
theorem cut_to (xs : List V) (m : Nat) (h : m ≤ xs.length) : cutV xs none (some (m : Int)) = xs.take m := by
  unfold cutV
  rw [HT.sIx_none, HT.sIx_nat, Nat.min_eq_left h]
  simp
theorem at_map {l : List G} {j : Nat} {c : G} (h : l[j]? = some c) : atI (l.map vG) (j : Int) = some (vG c) := atI_nat (by rw [List.getElem?_map, h]; rfl)
theorem get_of {α : Type} {l : List α} {j : Nat} (h : j < l.length) : ∃ c, l[j]? = some c := ⟨_, List.getElem?_eq_getElem h⟩
theorem vG_inj {a b : G} (h : vG a = vG b) : a = b := G.ext' (by
  have := V.int.inj h
  omega)

/-! ### promises -/
def spTrimmed (K : PySem.W.Frag) : Sp := fun vs H Q _ => ∃ (a : Addr) (l : List G), vs = [.ref a] ∧ SqL K H a (l.map vG) ∧ l.length ≤ 200 ∧
  ∀ r : List G, r.length ≤ l.length → (∀ n, (∀ c ∈ l.drop n, c = 0) → r.length ≤ n) → (∀ x, ev r x = ev l x) → ∀ H' p, Same H H' → H p = none → H' p = some (.tup (r.map vG)) → Q (.ref p) H'
def spCoef (K : PySem.W.Frag) : Sp := fun vs H Q _ => ∃ (a : Addr) (l : List G) (k : Nat), vs = [.ref a, .int k] ∧ SqT K H a (l.map vG) ∧ Q (vG (l.getD k 0)) H
def spPAdd (K : PySem.W.Frag) : Sp := fun vs H Q _ => ∃ (a b : Addr) (p q : List G), vs = [.ref a, .ref b] ∧ SqT K H a (p.map vG) ∧ SqT K H b (q.map vG) ∧ p.length ≤ 100 ∧ q.length ≤ 100 ∧
  ∀ r : List G, r.length ≤ max p.length q.length → (∀ x, ev r x = ev p x + ev q x) → ∀ H' t, Same H H' → H' t = some (.tup (r.map vG)) → Q (.ref t) H'
def spPTimes (K : PySem.W.Frag) : Sp := fun vs H Q _ => ∃ (a b : Addr) (p q : List G), vs = [.ref a, .ref b] ∧ SqT K H a (p.map vG) ∧ SqT K H b (q.map vG) ∧ p.length ≤ 100 ∧ q.length ≤ 100 ∧
  ∀ r : List G, r.length ≤ p.length + q.length - 1 → (∀ x, ev r x = ev p x * ev q x) → ∀ H' t, Same H H' → H' t = some (.tup (r.map vG)) → Q (.ref t) H'
def spPValue (K : PySem.W.Frag) : Sp := fun vs H Q _ => ∃ (a : Addr) (l : List G) (x : G), vs = [.ref a, vG x] ∧ SqT K H a (l.map vG) ∧ ∀ H', Same H H' → Q (vG (ev l x)) H'
section
variable {P : Program} {w : World} {K : PySem.W.Frag} {mg : Str → Option Value} {base : Heap}
theorem ok_trimmed {f : Addr} {fd : FuncData} (F : Fun K "trimmed" "trimmed" sTrimmed f fd) (ml : mg "len" = none) (mt : mg "tuple" = none) : FnOk P w K mg base CX0 1 f fd ["row"] (spTrimmed K) := by
  refine F.ok scTrimmed (fun vs H Q E h => ?_) (fun cdv A outer s H vs Q E hr h => ?_)
  · obtain ⟨a, l, rfl, _⟩ := h
    rfl
  · obtain ⟨a, l, rfl, hS, hlen, q⟩ := h
    refine ⟨_, pss_cons (ps_set (i := 1) scTrimmed.nd rfl (Or.inl rfl) (pe_callB call_len_seq (by rfl) ml PySem.boot_len (pa_cons (pv 0) pa_nil)))
      (pss_cons (ps_while PassesOwn.never (PW.pt (pw_and (pt_cmpR op_gtN (pv 1) pe_int (nomark _)) (pw_and1 (pt_cmpR op_eqN (pe_ix ix_list (pv 0) (pe_op op_subN (pv 1) pe_int) (fun _ _ => rfl)) pe_int (nomark _)))))
        (pss_one (ps_set (i := 1) scTrimmed.nd rfl (Or.inl rfl) (pe_op op_subN (pv 1) pe_int))))
      (pss_one (ps_ret (pe_callTy call_tuple_of (by rfl) mt (by decide +kernel) (pa_cons (pe_slice sl_list (pv 0) po_none (po_some (pv 1))) pa_nil))))), ?_⟩
    refine ⟨.ref a, rfl, a, _, rfl, .inl hS, ?_⟩
    rw [List.length_map]
    refine ⟨fun m σ H' => σ = [some (.ref a), some (.int m)] ∧ H' = H ∧ m ≤ l.length ∧ ∀ c ∈ l.drop m, c = 0, ⟨l.length, rfl, rfl, Nat.le_refl _, by simp⟩, ?_⟩
    rintro m σ H' ⟨rfl, rfl, hm, hz⟩
    -- behind the loop
    have out : (∀ c, l[m - 1]? = some c → 0 < m → c ≠ 0) → tRet (tCB (fun xs H Q => ∃ p ys, xs = [.ref p] ∧ ((SqL K H p ys ∧ ∀ l, H l = none → Q (.ref l) (upd H l (.tup ys))) ∨ (SqT K H p ys ∧ Q (.ref p) H))) (tCons (tSl (rSlL K) (tVar 0) tNoPart (tPart (tVar 1))) tNil))
        { nx := fun _ H' => Q .non H', rt := Q } [some (.ref a), some (.int m)] H' := by
      intro hlast
      refine ⟨.ref a, rfl, _, rfl, m, rfl, a, _, rfl, hS, fun c hc => ?_⟩
      rw [cut_to _ _ (by rw [List.length_map]; exact hm), ← List.map_take]
      refine ⟨c, _, rfl, .inl ⟨.inl (.inl upd_same), fun t ht => ?_⟩⟩
      refine q (l.take m) (by rw [List.length_take]; omega) (fun n hn => ?_) (fun x => ev_take_drop l m hz x) _ t (sameNew (sameNew (Same.refl H') hc) ht) ((sameNew (Same.refl H') hc).free ht) upd_same
      rw [List.length_take]
      by_cases hmn : m ≤ n
      · omega
      · have hml : m - 1 < l.length := by omega
        have e : l[m - 1]? = some l[m - 1] := List.getElem?_eq_getElem hml
        have hin : l[m - 1] ∈ l.drop n := by
          refine List.mem_of_getElem? (i := m - 1 - n) ?_
          rw [List.getElem?_drop]
          rw [show n + (m - 1 - n) = m - 1 by omega]
          exact e
        exact absurd (hn _ hin) (hlast _ e (by omega))
    refine ⟨_, rfl, m, 0, rfl, rfl, _, rfl, ite2N (fun c => ?_) (fun c => ?_)⟩
    · have hml : m - 1 < l.length := by omega
      have e : l[m - 1]? = some l[m - 1] := List.getElem?_eq_getElem hml
      refine ⟨.ref a, rfl, _, rfl, m, 1, rfl, rfl, by omega, a, _, _, vG l[m - 1], rfl, rfl, hS, at_map e, l[m - 1].n, 0, rfl, rfl, _, rfl, ite2N (fun c2 => ?_) (fun c2 => ?_)⟩
      · have c0 : l[m - 1] = 0 := G.ext' c2
        refine ⟨fun σ' H2 => ∃ m', m' < m ∧ σ' = [some (.ref a), some (.int m')] ∧ H2 = H' ∧ m' ≤ l.length ∧ ∀ c ∈ l.drop m', c = 0, fun σ' H2 h => h, ?_⟩
        refine ⟨_, rfl, m, 1, rfl, rfl, by omega, m - 1, by omega, rfl, rfl, by omega, fun d hd => ?_⟩
        have es : l.drop (m - 1) = l[m - 1] :: l.drop m := by
          rw [List.drop_eq_getElem_cons hml, show m - 1 + 1 = m by omega]
        rw [es] at hd
        rcases List.mem_cons.mp hd with z | hd
        · rw [z]; exact c0
        · exact hz d hd
      · refine out fun d hd _ z => c2 ?_
        rw [e] at hd
        cases hd
        rw [z]
        rfl
    · exact out fun d _ h0 => absurd h0 c
theorem ok_coef {f : Addr} {fd : FuncData} (F : Fun K "coefficient_at" "coefficient_at" sCoef f fd) (ml : mg "len" = none) : FnOk P w K mg base CX0 1 f fd ["p", "k"] (spCoef K) := by
  refine F.ok scCoef (fun vs H Q E h => ?_) (fun cdv A outer s H vs Q E hr h => ?_)
  · obtain ⟨a, l, k, rfl, _⟩ := h
    rfl
  · obtain ⟨a, l, k, rfl, hS, q⟩ := h
    refine ⟨_, pss_one (ps_ret (pe_ifExp (pt_cmpR op_ltN (pv 1) (pe_callB call_len_seq (by rfl) ml PySem.boot_len (pa_cons (pv 0) pa_nil)) (nomark _)) (pe_ix ix_tup (pv 0) (pv 1) (fun _ _ => rfl)) pe_int)), ?_⟩
    refine ⟨_, rfl, .ref a, rfl, a, _, rfl, .inr hS, k, _, rfl, rfl, _, rfl, ite2N (fun c => ?_) (fun c => ?_)⟩
    · rw [List.length_map] at c
      obtain ⟨d, hd⟩ := get_of c
      rw [List.getD_eq_getElem?_getD, hd] at q
      exact ⟨.ref a, rfl, _, rfl, a, _, _, vG d, rfl, rfl, hS, at_map hd, q⟩
    · rw [List.length_map] at c
      rw [List.getD_eq_getElem?_getD, List.getElem?_eq_none (by omega)] at q
      exact q
/-- a list of the ints that a comprehension fills -/
theorem ok_padd {f : Addr} {fd : FuncData} (F : Fun K "poly_added" "poly_added" sPAdd f fd) (NA : Kn P w K mg base CX0 1 "added" ["a", "b"] spAdded) (NC : Kn P w K mg base CX0 1 "coefficient_at" ["p", "k"] (spCoef K)) (NT : Kn P w K mg base CX0 1 "trimmed" ["row"] (spTrimmed K))
    (ml : mg "len" = none) (mr : mg "range" = none) (mm : mg "max" = none) : FnOk P w K mg base CX0 2 f fd ["p", "q"] (spPAdd K) := by
  refine F.ok scPAdd (fun vs H Q E h => ?_) (fun cdv A outer s H vs Q E hr h => ?_)
  · obtain ⟨a, b, p, q, rfl, _⟩ := h
    rfl
  · obtain ⟨a, b, p, q, rfl, hp, hq, lp, lq, k⟩ := h
    refine ⟨_, pss_one (ps_ret (pe_k0 NT hr (pa_cons (pe_lc (own := [("k", 2)]) (g := gName 2) (tt := tYes) rfl scPAdd.nd
        (pi_range1 (by rfl) mr (pa_cons (pe_callB (call_max2 rfl) (by rfl) mm (by decide +kernel) (pa_cons (pe_callB call_len_seq (by rfl) ml PySem.boot_len (pa_cons (pv 0) pa_nil)) (pa_cons (pe_callB call_len_seq (by rfl) ml PySem.boot_len (pa_cons (pv 1) pa_nil)) pa_nil))) pa_nil))
        (blkOk_by (own := [("k", 2)]) (N := ["p", "q", "k"]) (sc := defScope sPAdd) (by decide +kernel)) (fun _ _ _ _ _ => pg_name (i := 2) scPAdd.nd rfl (Or.inl rfl)) (fun _ _ _ _ _ => pts_nil)
        (fun _ _ _ _ _ => pe_k0 NA hr (pa_cons (pe_k0 NC hr (pa_cons (pv 0) (pa_cons (pv 2) pa_nil))) (pa_cons (pe_k0 NC hr (pa_cons (pv 1) (pa_cons (pv 2) pa_nil))) pa_nil)))) pa_nil))), ?_⟩
    refine ⟨.ref a, rfl, a, _, rfl, .inr hp, .ref b, rfl, b, _, rfl, .inr hq, _, _, rfl, ?_⟩
    have em : (if (((q.map vG).length : Nat) : Int) > (((p.map vG).length : Nat) : Int) then (((q.map vG).length : Nat) : Int) else (((p.map vG).length : Nat) : Int)) = ((max p.length q.length : Nat) : Int) := by
      rw [List.length_map, List.length_map]
      split <;> omega
    rw [em]
    refine ⟨_, rfl, by omega, by omega, fun D hD => ?_⟩
    rw [Int.toNat_natCast]
    refine lc_range (lo := 0) (n := max p.length q.length) (fun i H' => Same H H' ∧ H' D = some (.lst (((sumL p q).take i).map vG))) ⟨sameNew (Same.refl H) hD, upd_same⟩ (fun i H' hi ⟨s1, hl⟩ => ?_) (fun H' ⟨s1, hl⟩ => ?_)
    · have e0 : V.int ((0 : Int) + (i : Nat)) = V.int ((i : Nat) : Int) := by rw [Int.zero_add]
      rw [e0]
      refine ⟨rfl, ?_⟩
      refine ⟨.ref a, rfl, _, rfl, a, p, i, rfl, sameT s1 hp, .ref b, rfl, _, rfl, b, q, i, rfl, sameT s1 hq, _, _, rfl, _, hl, ?_, sameWr s1 hD, ?_⟩
      · rw [List.length_map, List.length_take, sumL_len]
        exact small1000 (by omega)
      · rw [upd_same]
        have es : (sumL p q)[i]? = some (p.getD i 0 + q.getD i 0) := by
          unfold sumL
          rw [List.getElem?_map, List.getElem?_range hi]
          rfl
        rw [List.take_add_one, es, List.map_append]
        rfl
    · rw [← sumL_len p q, List.take_length] at hl
      refine ⟨D, sumL p q, rfl, .inl (.inl hl), by rw [sumL_len]; omega, fun r h1 h2 h3 H2 t s2 nt ht => ?_⟩
      exact k r (by rw [← sumL_len]; exact h1) (fun x => (h3 x).trans (sumL_ev x p q)) H2 t (s1.trans s2) ht
theorem ok_pvalue {f : Addr} {fd : FuncData} (F : Fun K "poly_value" "poly_value" sPValue f fd) (NA : Kn P w K mg base CX0 1 "added" ["a", "b"] spAdded) (NT : Kn P w K mg base CX0 1 "times" ["a", "b"] spTimes) : FnOk P w K mg base CX0 2 f fd ["p", "x"] (spPValue K) := by
  refine F.ok scPValue (fun vs H Q E h => ?_) (fun cdv A outer s H vs Q E hr h => ?_)
  · obtain ⟨a, l, x, rfl, _⟩ := h
    rfl
  · obtain ⟨a, l, x, rfl, hS, k⟩ := h
    refine ⟨_, pss_cons (ps_set (i := 2) scPValue.nd rfl (Or.inl rfl) pe_int)
      (pss_cons (ps_for PassesOwn.never rfl (pi_tup (pe_revT (pv 0))) (pg_name (i := 3) scPValue.nd rfl (Or.inl rfl))
        (pss_one (ps_set (i := 2) scPValue.nd rfl (Or.inl rfl) (pe_k0 NA hr (pa_cons (pe_k0 NT hr (pa_cons (pv 2) (pa_cons (pv 1) pa_nil))) (pa_cons (pv 3) pa_nil))))))
      (pss_one (ps_ret (pv 2)))), ?_⟩
    refine ⟨.ref a, rfl, a, _, rfl, hS, fun c hc => ?_⟩
    rw [← List.map_reverse]
    have hT : SqT K (upd H c (.tup (l.reverse.map vG))) c (l.reverse.map vG) := .inl (.inl upd_same)
    refine ⟨c, rfl, ⟨_, hT⟩, for_tup (K := K) (a := c) (xs := l.reverse.map vG) (fun i σ H' => ∃ y, σ = [some (.ref a), some (vG x), some (vG ((l.reverse.take i).foldl (fun t c => t * x + c) 0)), y] ∧ H' = upd H c (.tup (l.reverse.map vG)))
      ⟨none, rfl, rfl⟩ (fun i σ H' _ ⟨_, _, e⟩ => e ▸ hT) ?_ ?_⟩
    · rintro i v σ H' hi ⟨y, rfl, rfl⟩
      obtain ⟨d, hd, rfl⟩ : ∃ d, l.reverse[i]? = some d ∧ v = vG d := by
        rw [List.getElem?_map] at hi
        cases e : l.reverse[i]? with
        | none => rw [e] at hi; cases hi
        | some d => rw [e] at hi; exact ⟨d, rfl, (Option.some.inj hi).symm⟩
      refine ⟨_, rfl, _, rfl, _, x, rfl, _, rfl, _, d, rfl, some (vG d), ?_, rfl⟩
      rw [List.take_add_one, hd]
      show [some (V.ref a), some (vG x), some (vG _), some (vG d)] = _
      rw [List.foldl_append]
      rfl
    · rintro σ H' ⟨y, rfl, rfl⟩
      rw [List.length_map, List.take_length, ev_fold]
      exact ⟨_, rfl, k _ (sameNew (Same.refl H) hc)⟩
end
end K8

set_option maxHeartbeats 1000000
/-! poly_times, poly_through, word_of. -/
namespace K8
open PySem PySem.Spec PyProof.Rows L2 K8R
theorem flat_rep (n : Nat) : (List.replicate n [V.int 0]).flatten = (List.replicate n (0 : G)).map vG := by
  induction n with
  | zero => rfl
  | succ n ih =>
    rw [List.replicate_succ, List.replicate_succ, List.flatten_cons, ih]
    rfl
theorem ixN_nat {n j : Nat} (h : j < n) : ixN n (j : Int) = some j := by
  unfold ixN
  rw [if_pos (Int.natCast_nonneg _), if_pos (by omega), Int.toNat_natCast]
theorem set_map (l : List G) (j : Nat) (c : G) : (l.map vG).set j (vG c) = (l.set j c).map vG := by
  rw [List.map_set]
section
variable {P : Program} {w : World} {K : PySem.W.Frag} {mg : Str → Option Value} {base : Heap}
theorem ok_ptimes {f : Addr} {fd : FuncData} (F : Fun K "poly_times" "poly_times" sPTimes f fd) (NA : Kn P w K mg base CX0 1 "added" ["a", "b"] spAdded) (NT : Kn P w K mg base CX0 1 "times" ["a", "b"] spTimes) (NR : Kn P w K mg base CX0 1 "trimmed" ["row"] (spTrimmed K))
    (ml : mg "len" = none) (me : mg "enumerate" = none) : FnOk P w K mg base CX0 2 f fd ["p", "q"] (spPTimes K) := by
  refine F.ok scPTimes (fun vs H Q E h => ?_) (fun cdv A outer s H vs Q E hr h => ?_)
  · obtain ⟨a, b, p, q, rfl, _⟩ := h
    rfl
  · obtain ⟨a, b, p, q, rfl, hp, hq, lp, lq, k⟩ := h
    refine ⟨_, pss_cons (ps_set (i := 2) scPTimes.nd rfl (Or.inl rfl) (pe_op op_rep (pe_lst (pa_cons pe_int pa_nil)) (pe_op op_addN (pe_callB call_len_seq (by rfl) ml PySem.boot_len (pa_cons (pv 0) pa_nil)) (pe_callB call_len_seq (by rfl) ml PySem.boot_len (pa_cons (pv 1) pa_nil)))))
      (pss_cons (ps_for PassesOwn.never rfl (pi_enumA (by rfl) me (pa_cons (pv 0) pa_nil)) (pg_tup rfl (pgs_cons (pg_name (i := 3) scPTimes.nd rfl (.inl rfl)) (pgs_cons (pg_name (i := 4) scPTimes.nd rfl (.inl rfl)) pgs_nil)))
        (pss_one (ps_for PassesOwn.never rfl (pi_enumA (by rfl) me (pa_cons (pv 1) pa_nil)) (pg_tup rfl (pgs_cons (pg_name (i := 5) scPTimes.nd rfl (.inl rfl)) (pgs_cons (pg_name (i := 6) scPTimes.nd rfl (.inl rfl)) pgs_nil)))
          (pss_one (ps_asg (pe_k0 NA hr (pa_cons (pe_ix ix_list (pv 2) (pe_op op_addN (pv 3) (pv 5)) (fun _ _ => rfl)) (pa_cons (pe_k0 NT hr (pa_cons (pv 4) (pa_cons (pv 6) pa_nil))) pa_nil))) (pg_sub (pv 2) (pe_op op_addN (pv 3) (pv 5)) set_list))))))
      (pss_one (ps_ret (pe_k0 NR hr (pa_cons (pv 2) pa_nil))))), ?_⟩
    refine ⟨by show 1 ≤ sizeLine; decide, fun l0 h0 => ?_⟩
    have s0 : Same H (upd H l0 (.lst [.int 0])) := sameNew (Same.refl H) h0
    refine ⟨.ref a, rfl, a, _, rfl, .inr (sameT s0 hp), .ref b, rfl, b, _, rfl, .inr (sameT s0 hq), (p.map vG).length, (q.map vG).length, rfl, rfl, ?_⟩
    rw [List.length_map, List.length_map]
    refine ⟨l0, _, _, rfl, rfl, upd_same, by omega, by omega, ?_, fun r hrn => ?_⟩
    · rw [Int.toNat_natCast]
      exact line_of (by show 1 * _ ≤ 1000; omega)
    rw [Int.toNat_natCast, flat_rep]
    have nr : H r = none := s0.free hrn
    have s1 : Same H (upd (upd H l0 (.lst [.int 0])) r (.lst ((List.replicate (p.length + q.length) (0 : G)).map vG))) := sameNew s0 hrn
    refine ⟨.ref a, rfl, a, _, rfl, .inr ⟨sameT s1 hp, ?_⟩⟩
    refine for_it walk_enumT (fun i σ H' => ∃ (R : List G) (y3 y4 y5 y6 : Option V), σ = [some (.ref a), some (.ref b), some (.ref r), y3, y4, y5, y6] ∧ Same H H' ∧ H' r = some (.lst (R.map vG)) ∧ R.length = p.length + q.length ∧
        (∀ x, ev R x = ev (p.take i) x * ev q x) ∧ ∀ (j : Nat) c, R[j]? = some c → i + q.length ≤ j + 1 → c = 0)
      ⟨List.replicate (p.length + q.length) 0, none, none, none, none, rfl, s1, upd_same, by rw [List.length_replicate], fun x => ?_, fun j c hc _ => (List.mem_replicate.mp (List.mem_of_getElem? hc)).2⟩
      (fun i σ H' _ ⟨R, _, _, _, _, _, s, _⟩ => sameT s hp) ?_ ?_
    · rw [ev_rep]
      show 0 = 0 * ev q x
      grind
    · rintro i v σ H2 H3 hi ⟨R, y3, y4, y5, y6, rfl, s2, hR, lR, eR, zR⟩ ⟨T, x1, x2, rfl, nT, rfl, hx1, hx2⟩
      rw [List.length_map] at hi
      cases hx1
      obtain ⟨one, ho⟩ := get_of hi
      have ex2 : x2 = vG one := by
        have z : (p.map vG)[i]? = some x2 := hx2
        rw [List.getElem?_map, ho] at z
        exact (Option.some.inj z).symm
      subst ex2
      have s3 := sameNew (o := .tup [.int (i : Nat), vG one]) s2 nT
      have hR3 : (upd H2 T (.tup [.int (i : Nat), vG one])) r = some (.lst (R.map vG)) := by
        rw [upd_ne (ne_of_none hR nT)]
        exact hR
      refine ⟨T, _, rfl, .inl (.inl upd_same), rfl, _, _, rfl, _, _, rfl, rfl, ?_⟩
      refine ⟨.ref b, rfl, b, _, rfl, .inr ⟨sameT s3 hq, ?_⟩⟩
      refine for_it walk_enumT (fun j σ H' => ∃ (R : List G) (y5 y6 : Option V), σ = [some (.ref a), some (.ref b), some (.ref r), some (.int (i : Nat)), some (vG one), y5, y6] ∧ Same H H' ∧ H' r = some (.lst (R.map vG)) ∧ R.length = p.length + q.length ∧
          (∀ x, ev R x = ev (p.take i) x * ev q x + one * x ^ i * ev (q.take j) x) ∧ ∀ (m : Nat) c, R[m]? = some c → i + 1 + q.length ≤ m + 1 → c = 0)
        ⟨R, y5, y6, rfl, s3, hR3, lR, fun x => ?_, fun m c hc hm => zR m c hc (by omega)⟩
        (fun j σ H' _ ⟨R, _, _, _, s, _⟩ => sameT s hq) ?_ ?_
      · rw [eR]
        show _ = _ + one * x ^ i * 0
        grind
      · rintro j v σ H4 H5 hj ⟨R, y5, y6, rfl, s4, hR, lR, eR, zR⟩ ⟨T2, x1, x2, rfl, nT2, rfl, hx1, hx2⟩
        rw [List.length_map] at hj
        cases hx1
        obtain ⟨oth, ho2⟩ := get_of hj
        have ex2 : x2 = vG oth := by
          have z : (q.map vG)[j]? = some x2 := hx2
          rw [List.getElem?_map, ho2] at z
          exact (Option.some.inj z).symm
        subst ex2
        have s5 := sameNew (o := .tup [.int (j : Nat), vG oth]) s4 nT2
        have hR5 : (upd H4 T2 (.tup [.int (j : Nat), vG oth])) r = some (.lst (R.map vG)) := by
          rw [upd_ne (ne_of_none hR nT2)]
          exact hR
        have hij : i + j < R.length := by omega
        obtain ⟨c, hc⟩ := get_of hij
        refine ⟨T2, _, rfl, .inl (.inl upd_same), rfl, _, _, rfl, _, _, rfl, rfl, ?_⟩
        refine ⟨.ref r, rfl, _, rfl, _, rfl, i, j, rfl, rfl, r, _, _, vG c, rfl, rfl, .inl (.inl hR5), at_map hc, _, rfl, _, rfl, one, oth, rfl, c, one * oth, rfl, ?_⟩
        refine ⟨.ref r, rfl, _, rfl, _, rfl, i, j, rfl, rfl, r, _, _, i + j, rfl, rfl, hR5, ixN_nat (by rw [List.length_map]; exact hij), ?_⟩
        rw [set_map]
        refine ⟨R.set (i + j) (c + one * oth), some (.int (j : Nat)), some (vG oth), rfl, sameWr s5 nr, upd_same, by rw [List.length_set]; exact lR, fun x => ?_, fun m d hd hm => ?_⟩
        · rw [ev_set _ _ hc, eR, ev_take_succ ho2]
          have ep : x ^ (i + j) = x ^ i * x ^ j := Lean.Grind.Semiring.pow_add x i j
          rw [ep]
          grind
        · by_cases e : i + j = m
          · omega
          · rw [List.getElem?_set_ne e] at hd
            exact zR m d hd hm
      · rintro σ H4 ⟨R, y5, y6, rfl, s4, hR, lR, eR, zR⟩
        refine ⟨R, _, _, y5, y6, rfl, s4, hR, lR, fun x => ?_, zR⟩
        rw [eR, List.length_map, List.take_length, ev_take_succ ho]
        grind
    · rintro σ H2 ⟨R, y3, y4, y5, y6, rfl, s2, hR, lR, eR, zR⟩
      rw [List.length_map, List.take_length] at eR
      rw [List.length_map] at zR
      refine ⟨.ref r, rfl, r, R, rfl, .inl (.inl hR), by omega, fun t h1 h2 h3 H3 tp s3 _ ht => ?_⟩
      refine k t (h2 _ fun c hc => ?_) (fun x => (h3 x).trans (eR x)) H3 tp (s2.trans s3) ht
      obtain ⟨m, hm⟩ := List.mem_iff_getElem?.mp hc
      rw [List.getElem?_drop] at hm
      exact zR _ c hm (by omega)
end
/-! ### points -/
/-- the number n as a symbol -/
def gN (n : Nat) : G := ⟨n % 128, Nat.mod_lt _ (by decide)⟩
theorem gN_n {n : Nat} (h : n < 128) : (gN n).n = n := Nat.mod_eq_of_lt h
theorem vG_gN {n : Nat} (h : n < 128) : vG (gN n) = .int (n : Int) := by
  unfold vG
  rw [gN_n h]
/-- a list of pairs of symbols, each a tuple -/
def PtsAt (K : PySem.W.Frag) (H : Hp) (a : Addr) (ps : List (G × G)) : Prop := ∃ bs : List Addr, SqL K H a (bs.map V.ref) ∧ bs.length = ps.length ∧ ∀ (i : Nat) b p, bs[i]? = some b → ps[i]? = some p → SqT K H b [vG p.1, vG p.2]
theorem PtsAt.same {K : PySem.W.Frag} {H H' : Hp} {a : Addr} {ps : List (G × G)} (s : Same H H') (h : PtsAt K H a ps) : PtsAt K H' a ps := by
  obtain ⟨bs, h1, h2, h3⟩ := h
  exact ⟨bs, s.seq h1, h2, fun i b p e1 e2 => sameT s (h3 i b p e1 e2)⟩
theorem nodup_take {ps : List (G × G)} (hn : (ps.map (·.1)).Nodup) {i : Nat} {p : G × G} (h : ps[i]? = some p) : p.1 ∉ (ps.take i).map (·.1) := fun m => by
  rw [List.map_take] at m
  obtain ⟨j, hj⟩ := List.mem_iff_getElem?.mp m
  rw [List.getElem?_take] at hj
  split at hj
  · rename_i hlt
    have e : (ps.map (·.1))[i]? = some p.1 := by rw [List.getElem?_map, h]; rfl
    have := nd_ix hn hj e
    omega
  · cases hj
theorem take_snoc {α : Type} {l : List α} {i : Nat} {x : α} (h : l[i]? = some x) : l.take (i + 1) = l.take i ++ [x] := by
  rw [List.take_add_one, h]
  rfl
theorem one_coef (a b c x : G) : a + (b + x * 0) * c = a + b * c := by grind
theorem two_coef (a b x : G) : a * (b + x * (1 + x * 0)) = a * (b + x) := by grind
def spPThru (K : PySem.W.Frag) : Sp := fun vs H Q _ => ∃ (a : Addr) (ps : List (G × G)), vs = [.ref a] ∧ PtsAt K H a ps ∧ (ps.map (·.1)).Nodup ∧ ps.length ≤ 20 ∧
  ∀ r : List G, Thru r ps → ∀ H' t, Same H H' → H' t = some (.tup (r.map vG)) → Q (.ref t) H'
def spWord (K : PySem.W.Frag) : Sp := fun vs H Q _ => ∃ (a : Addr) (l : List G) (n : Nat), vs = [.ref a, .int n] ∧ SqT K H a (l.map vG) ∧ n ≤ 100 ∧
  ∀ H' t, Same H H' → H' t = some (.tup (((List.range n).map fun i => ev l (gN i)).map vG)) → Q (.ref t) H'
section
variable {P : Program} {w : World} {K : PySem.W.Frag} {mg : Str → Option Value} {base : Heap}
theorem ok_pthru {f : Addr} {fd : FuncData} (F : Fun K "poly_through" "poly_through" sPThru f fd) (NA : Kn P w K mg base CX0 1 "added" ["a", "b"] spAdded) (NV : Kn P w K mg base CX0 2 "poly_value" ["p", "x"] (spPValue K)) (NO : Kn P w K mg base CX0 4 "over" ["a", "b"] spOver)
    (NP : Kn P w K mg base CX0 2 "poly_added" ["p", "q"] (spPAdd K)) (NT : Kn P w K mg base CX0 2 "poly_times" ["p", "q"] (spPTimes K)) : FnOk P w K mg base CX0 5 f fd ["points"] (spPThru K) := by
  refine F.ok scPThru (fun vs H Q E h => ?_) (fun cdv A outer s H vs Q E hr h => ?_)
  · obtain ⟨a, ps, rfl, _⟩ := h
    rfl
  · obtain ⟨a, ps, rfl, hP, hn, lps, k⟩ := h
    have hr2 : Room 2 _ := hr.mono (by decide)
    have hr1 : Room 1 _ := hr.mono (by decide)
    refine ⟨_, pss_cons (ps_set (i := 1) scPThru.nd rfl (Or.inl rfl) (pe_tup pa_nil))
      (pss_cons (ps_set (i := 2) scPThru.nd rfl (Or.inl rfl) (pe_tup (pa_cons pe_int pa_nil)))
      (pss_cons (ps_for PassesOwn.never rfl (pi_list (pv 0)) (pg_tup rfl (pgs_cons (pg_name (i := 3) scPThru.nd rfl (.inl rfl)) (pgs_cons (pg_name (i := 4) scPThru.nd rfl (.inl rfl)) pgs_nil)))
        (pss_cons (ps_set (i := 5) scPThru.nd rfl (Or.inl rfl) (pe_k0 NV hr2 (pa_cons (pv 2) (pa_cons (pv 3) pa_nil))))
        (pss_cons (ps_if (pt_cmpR op_eqN (pv 5) pe_int (nomark _)) (pss_one ps_never) pss_nil)
        (pss_cons (ps_set (i := 6) scPThru.nd rfl (Or.inl rfl) (pe_k0 NO hr (pa_cons (pe_k0 NA hr1 (pa_cons (pv 4) (pa_cons (pe_k0 NV hr2 (pa_cons (pv 1) (pa_cons (pv 3) pa_nil))) pa_nil))) (pa_cons (pv 5) pa_nil))))
        (pss_cons (ps_set (i := 1) scPThru.nd rfl (Or.inl rfl) (pe_k0 NP hr2 (pa_cons (pv 1) (pa_cons (pe_k0 NT hr2 (pa_cons (pe_tup (pa_cons (pv 6) pa_nil)) (pa_cons (pv 2) pa_nil))) pa_nil))))
        (pss_one (ps_set (i := 2) scPThru.nd rfl (Or.inl rfl) (pe_k0 NT hr2 (pa_cons (pv 2) (pa_cons (pe_tup (pa_cons (pv 3) (pa_cons pe_int pa_nil))) pa_nil))))))))))
      (pss_one (ps_ret (pv 1))))), ?_⟩
    refine ⟨by show 0 ≤ sizeLine; decide, fun t1 h1 => ?_⟩
    have s1 : Same H (upd H t1 (.tup [])) := sameNew (Same.refl H) h1
    refine ⟨by show 1 ≤ sizeLine; decide, fun t2 h2 => ?_⟩
    have s2 : Same H (upd (upd H t1 (.tup [])) t2 (.tup [.int 1])) := sameNew s1 h2
    have n12 : t1 ≠ t2 := fun e => by
      rw [← e, upd_same] at h2
      cases h2
    obtain ⟨bs, hB, lB, hbp⟩ := hP
    refine ⟨.ref a, rfl, a, rfl, ⟨_, s2.seq hB⟩, for_list (K := K) (a := a) (xs := bs.map V.ref) (fun i σ H' => ∃ (fo no : List G) (tf tn : Addr) (y3 y4 y5 y6 : Option V), σ = [some (.ref a), some (.ref tf), some (.ref tn), y3, y4, y5, y6] ∧ Same H H' ∧
        H' tf = some (.tup (fo.map vG)) ∧ H' tn = some (.tup (no.map vG)) ∧ Newt (ps.take i) fo no)
      ⟨[], [1], t1, t2, none, none, none, none, rfl, s2, by rw [upd_ne n12, upd_same]; rfl, upd_same, Newt.start⟩ (fun i σ H' _ ⟨_, _, _, _, _, _, _, _, _, s, _⟩ => s.seq hB) ?_ ?_⟩
    · rintro i v σ H' hi ⟨fo, no, tf, tn, y3, y4, y5, y6, rfl, s3, hf, ho, N⟩
      obtain ⟨b, hb, rfl⟩ : ∃ b, bs[i]? = some b ∧ v = .ref b := by
        rw [List.getElem?_map] at hi
        cases e : bs[i]? with
        | none => rw [e] at hi; cases hi
        | some d => rw [e] at hi; exact ⟨d, rfl, (Option.some.inj hi).symm⟩
      have hil : i < ps.length := by
        rw [← lB]
        exact (List.getElem?_eq_some_iff.mp hb).1
      obtain ⟨p, hp⟩ := get_of hil
      have hnot := nodup_take hn hp
      have ht := N.there hnot
      have l1 := N.thru.1
      have l2 := N.len
      rw [List.length_take] at l1 l2
      refine ⟨b, _, rfl, sameT s3 (hbp i b p hb hp), rfl, _, _, rfl, _, _, rfl, rfl, ?_⟩
      -- there = poly_value(noughts, x)
      refine ⟨_, rfl, _, rfl, tn, no, p.1, rfl, .inl (.inl ho), fun H4 s4 => ?_⟩
      refine ⟨_, rfl, (ev no p.1).n, 0, rfl, rfl, _, rfl, ite2N (fun c => ht (G.ext' c)) (fun c => ?_)⟩
      -- by
      refine ⟨_, rfl, _, rfl, _, rfl, tf, fo, p.1, rfl, .inl (.inl (s4 _ _ hf)), fun H5 s5 => ⟨p.2, ev fo p.1, rfl, _, rfl, _, ev no p.1, rfl, ht, ?_⟩⟩
      have s45 := s4.trans s5
      -- found
      refine ⟨_, rfl, _, rfl, by show 1 ≤ sizeLine; decide, fun t6 h6 => ?_⟩
      have s6 := sameNew (o := .tup [vG ((p.2 + ev fo p.1) * (ev no p.1).inv)]) s45 h6
      refine ⟨_, rfl, t6, tn, [(p.2 + ev fo p.1) * (ev no p.1).inv], no, rfl, .inl (.inl upd_same), .inl (.inl (s6 _ _ ho)), by show 1 ≤ 100; decide, by omega, fun r7 l7 e7 H7 t7 s7 h7 => ?_⟩
      refine ⟨tf, t7, fo, r7, rfl, .inl (.inl (s7 _ _ (s6 _ _ hf))), .inl (.inl h7), by omega, ?_, fun r8 l8 e8 H8 t8 s8 h8 => ?_⟩
      · show r7.length ≤ 100
        have : r7.length ≤ 1 + no.length - 1 := l7
        omega
      -- noughts
      have s68 : Same H' H8 := s6.trans (s7.trans s8)
      refine ⟨_, rfl, _, rfl, by show 2 ≤ sizeLine; decide, fun t9 h9 => ?_⟩
      have s9 := sameNew (o := .tup [vG p.1, .int 1]) s68 h9
      refine ⟨tn, t9, no, [p.1, 1], rfl, .inl (.inl (s9 _ _ ho)), .inl (.inl upd_same), by omega, by show 2 ≤ 100; decide, fun r10 l10 e10 H10 t10 s10 h10 => ?_⟩
      refine ⟨r8, r10, t8, t10, _, _, _, _, rfl, s3.trans (s9.trans s10), ?_, h10, ?_⟩
      · refine s10 _ _ ?_
        rw [upd_ne (ne_of_none h8 h9)]
        exact h8
      · rw [take_snoc hp]
        refine N.step hnot ?_ (fun x => ?_) l10 (fun x => ?_)
        · have z7 : r7.length ≤ 1 + no.length - 1 := l7
          omega
        · rw [e8, e7, ev_cons, ev_nil]
          exact one_coef _ _ _ _
        · rw [e10, ev_cons, ev_cons, ev_nil]
          exact two_coef _ _ _
    · rintro σ H' ⟨fo, no, tf, tn, y3, y4, y5, y6, rfl, s3, hf, ho, N⟩
      rw [List.length_map, lB, List.take_length] at N
      exact ⟨_, rfl, k fo N.thru H' tf s3 hf⟩
theorem ok_word {f : Addr} {fd : FuncData} (F : Fun K "word_of" "word_of" sWord f fd) (NV : Kn P w K mg base CX0 2 "poly_value" ["p", "x"] (spPValue K)) (mt : mg "tuple" = none) (mr : mg "range" = none) : FnOk P w K mg base CX0 3 f fd ["p", "size"] (spWord K) := by
  refine F.ok scWord (fun vs H Q E h => ?_) (fun cdv A outer s H vs Q E hr h => ?_)
  · obtain ⟨a, l, n, rfl, _⟩ := h
    rfl
  · obtain ⟨a, l, n, rfl, hS, hnl, k⟩ := h
    refine ⟨_, pss_one (ps_ret (pe_callTy call_tuple_of (by rfl) mt (by decide +kernel) (pa_cons (pe_lc (own := [("x", 2)]) (g := gName 2) (tt := tYes) rfl scWord.nd
        (pi_range1 (by rfl) mr (pa_cons (pv 1) pa_nil)) (blkOk_by (own := [("x", 2)]) (N := ["p", "size", "x"]) (sc := defScope sWord) (by decide +kernel)) (fun _ _ _ _ _ => pg_name (i := 2) scWord.nd rfl (Or.inl rfl)) (fun _ _ _ _ _ => pts_nil)
        (fun _ _ _ _ _ => pe_k0 NV hr (pa_cons (pv 0) (pa_cons (pv 2) pa_nil)))) pa_nil))), ?_⟩
    refine ⟨_, rfl, _, rfl, by omega, by omega, fun D hD => ?_⟩
    rw [Int.toNat_natCast]
    refine lc_range (lo := 0) (n := n) (fun i H' => Same H H' ∧ H' D = some (.lst (((List.range i).map fun i => ev l (gN i)).map vG))) ⟨sameNew (Same.refl H) hD, upd_same⟩ (fun i H' hi ⟨s1, hl⟩ => ?_) (fun H' ⟨s1, hl⟩ => ?_)
    · have e0 : V.int ((0 : Int) + (i : Nat)) = vG (gN i) := by rw [Int.zero_add, vG_gN (by omega)]
      rw [e0]
      refine ⟨rfl, ?_⟩
      refine ⟨_, rfl, _, rfl, a, l, gN i, rfl, sameT s1 hS, fun H2 s2 => ⟨_, s2 _ _ hl, ?_, sameWr (s1.trans s2) hD, ?_⟩⟩
      · rw [List.length_map, List.length_map, List.length_range]
        exact small1000 (by omega)
      · rw [upd_same, List.range_succ, List.map_append, List.map_append]
        rfl
    · refine ⟨D, _, rfl, .inl ⟨.inl (.inl hl), fun t ht => ?_⟩⟩
      exact k _ t (sameNew s1 ht) upd_same
end
end K8

set_option maxHeartbeats 1000000
/-! given_points, unlike_places, filled. -/
namespace K8
open PySem PySem.Spec PyProof.Rows L2 K8R
/-! ### the points of a row -/
def one1 (i : Nat) : Option G → List (G × G)
  | none => []
  | some g => [(gN i, g)]
def ptsF : Nat → List (Option G) → List (G × G)
  | _, [] => []
  | i, s :: r => one1 i s ++ ptsF (i + 1) r
abbrev pts (ss : List (Option G)) : List (G × G) := ptsF 0 ss
theorem ptsF_snoc : ∀ (l : List (Option G)) (i : Nat) (s : Option G), ptsF i (l ++ [s]) = ptsF i l ++ one1 (i + l.length) s
  | [], i, s => by
    show one1 i s ++ [] = [] ++ one1 (i + 0) s
    simp
  | t :: r, i, s => by
    show one1 i t ++ ptsF (i + 1) (r ++ [s]) = (one1 i t ++ ptsF (i + 1) r) ++ one1 (i + (r.length + 1)) s
    rw [ptsF_snoc r (i + 1) s, List.append_assoc]
    congr 3
    omega
theorem pts_take {ss : List (Option G)} {i : Nat} {s : Option G} (h : ss[i]? = some s) : pts (ss.take (i + 1)) = pts (ss.take i) ++ one1 i s := by
  have hi := (List.getElem?_eq_some_iff.mp h).1
  rw [take_snoc h]
  show ptsF 0 (ss.take i ++ [s]) = _
  rw [ptsF_snoc, List.length_take, Nat.min_eq_left (Nat.le_of_lt hi), Nat.zero_add]
theorem ptsF_len : ∀ (l : List (Option G)) (i : Nat), (ptsF i l).length ≤ l.length
  | [], _ => Nat.le_refl _
  | s :: r, i => by
    have ih := ptsF_len r (i + 1)
    cases s with
    | none => exact Nat.le_succ_of_le ih
    | some g => exact Nat.succ_le_succ ih
theorem ptsF_mem : ∀ {l : List (Option G)} {i : Nat} {p : G × G}, i + l.length ≤ 128 → p ∈ ptsF i l → i ≤ p.1.n ∧ l[p.1.n - i]? = some (some p.2)
  | [], _, _, _, h => nomatch h
  | s :: r, i, p, hl, h => by
    simp only [List.length_cons] at hl
    rcases List.mem_append.mp (show p ∈ one1 i s ++ ptsF (i + 1) r from h) with h | h
    · cases s with
      | none => cases h
      | some g =>
        have e : p = (gN i, g) := List.mem_singleton.mp h
        subst e
        have en : (gN i).n = i := gN_n (by omega)
        refine ⟨Nat.le_of_eq en.symm, ?_⟩
        show (some g :: r)[(gN i).n - i]? = _
        rw [en, Nat.sub_self]
        rfl
    · obtain ⟨h1, h2⟩ := ptsF_mem (l := r) (i := i + 1) (by omega) h
      refine ⟨by omega, ?_⟩
      rw [show p.1.n - i = (p.1.n - (i + 1)) + 1 by omega]
      simpa using h2
theorem ptsF_nodup : ∀ {l : List (Option G)} {i : Nat}, i + l.length ≤ 128 → ((ptsF i l).map (·.1)).Nodup
  | [], _, _ => List.nodup_nil
  | s :: r, i, hl => by
    simp only [List.length_cons] at hl
    have ih := ptsF_nodup (l := r) (i := i + 1) (by omega)
    cases s with
    | none => exact ih
    | some g =>
      show (gN i :: (ptsF (i + 1) r).map (·.1)).Nodup
      refine List.nodup_cons.mpr ⟨fun m => ?_, ih⟩
      obtain ⟨p, hp, e⟩ := List.mem_map.mp m
      obtain ⟨h1, _⟩ := ptsF_mem (l := r) (i := i + 1) (by omega) hp
      have en : (gN i).n = i := gN_n (by omega)
      rw [e, en] at h1
      omega
theorem pts_len (ss : List (Option G)) : (pts ss).length ≤ ss.length := ptsF_len ss 0
theorem pts_nodup {ss : List (Option G)} (h : ss.length ≤ 16) : ((pts ss).map (·.1)).Nodup := ptsF_nodup (by omega)
theorem pts_mem {ss : List (Option G)} (h : ss.length ≤ 16) {p : G × G} (hp : p ∈ pts ss) : ss[p.1.n]? = some (some p.2) := by
  have := (ptsF_mem (l := ss) (i := 0) (by omega) hp).2
  simpa using this
theorem pts_lt {ss : List (Option G)} (h : ss.length ≤ 16) {p : G × G} (hp : p ∈ pts ss) : p.1.n < ss.length := (List.getElem?_eq_some_iff.mp (pts_mem h hp)).1
/-- a list or a tuple -/
def SqA (K : PySem.W.Frag) (H : Hp) (a : Addr) (xs : List V) : Prop := SqL K H a xs ∨ SqT K H a xs
theorem SqA.same {K : PySem.W.Frag} {H H' : Hp} {a : Addr} {xs : List V} (s : Same H H') (h : SqA K H a xs) : SqA K H' a xs := h.imp (fun z => s.seq z) fun z => sameT s z
theorem PtsAt.take {K : PySem.W.Frag} {H : Hp} {a : Addr} {ps : List (G × G)} {k : Nat} {bs : List Addr} (h1 : SqL K H a ((bs.take k).map V.ref)) (h2 : bs.length = ps.length) (h3 : ∀ (i : Nat) b p, bs[i]? = some b → ps[i]? = some p → SqT K H b [vG p.1, vG p.2]) : PtsAt K H a (ps.take k) := by
  refine ⟨bs.take k, h1, by rw [List.length_take, List.length_take, h2], fun i b p e1 e2 => ?_⟩
  rw [List.getElem?_take] at e1 e2
  split at e1
  · rename_i hlt
    rw [if_pos hlt] at e2
    exact h3 i b p e1 e2
  · cases e1
def EnA (K : PySem.W.Frag) (a : Addr) (xs : List V) (R : It → Hp → Prop) (H : Hp) : Prop := (SqL K H a xs ∧ R (Ite K a) H) ∨ (SqT K H a xs ∧ R (IteT K a) H)
def iEnumB (K : PySem.W.Frag) (ta : TA) : TI := fun σ H R => ta σ H fun vs H1 => ∃ a xs, vs = [.ref a] ∧ EnA K a xs R H1
theorem pi_enumB {X : Cx} {e : Expr} {ta : TA} {p pos tpos : Pos} {elts : List Expr} {kk : Nat} (hg : Gl X "enumerate") (hm : X.mg "enumerate" = none) (ha : PA X [e] ta) (hs : starEach [e] X.env = [(false, eval e X.env)] := by rfl) :
    PI X (.Tuple elts kk tpos) (.Call (.Name "enumerate" p) [e] [] pos) (iEnumB X.K ta) := pi_enumA hg hm ha hs
/-- enumerate of a list or a tuple, as one walk -/
theorem enumA {K : PySem.W.Frag} {H : Hp} {a : Addr} {xs : List V} (h : SqA K H a xs) : ∃ (J : It) (Gd : Hp → Prop), Walk J xs.length Gd (YPair (fun i => some (.int (i : Nat))) (fun i => xs[i]?)) ∧ (∀ H', Same H H' → Gd H') ∧
    ∀ R : It → Hp → Prop, R J H → EnA K a xs R H := by
  rcases h with h | h
  · exact ⟨_, _, walk_enum, fun H' s => s.seq h, fun R r => .inl ⟨h, r⟩⟩
  · exact ⟨_, _, walk_enumT, fun H' s => sameT s h, fun R r => .inr ⟨h, r⟩⟩
abbrev xdW (z : Str) : HO := .xd [("word", .str z)]
def spGiven (K : PySem.W.Frag) (C : Addr) : Sp := fun vs H Q E => ∃ (a : Addr) (ss : List (Option G)) (k : Nat), vs = [.ref a, .int k] ∧ SqA K H a (ss.map vO) ∧ ss.length ≤ 16 ∧
  ((pts ss).length < k → ∀ H' d, Same H H' → H' d = some (xdW "lost") → E (.ref C) (some d) H') ∧
  (k ≤ (pts ss).length → ∀ H' p, Same H H' → PtsAt K H' p (pts ss) → Q (.ref p) H')
def spUnlike (K : PySem.W.Frag) : Sp := fun vs H Q _ => ∃ (a b : Addr) (wd : List G) (ps : List (G × G)), vs = [.ref a, .ref b] ∧ SqT K H a (wd.map vG) ∧ PtsAt K H b ps ∧ (∀ p ∈ ps, p.1.n < wd.length) ∧ ps.length ≤ 20 ∧
  ∀ H' c, Same H H' → H' c = some (.lst ((ps.filter fun p => !decide ((wd.getD p.1.n 0).n = p.2.n)).map fun p => vG p.1)) → Q (.ref c) H'
def spFilled (K : PySem.W.Frag) (C : Addr) : Sp := fun vs H Q E => ∃ (a : Addr) (ss : List (Option G)) (k : Nat), vs = [.ref a, .int k] ∧ SqA K H a (ss.map vO) ∧ ss.length ≤ 16 ∧
  ((pts ss).length < k → ∀ H' d, Same H H' → H' d = some (xdW "lost") → E (.ref C) (some d) H') ∧
  (k ≤ (pts ss).length → ∀ r, Thru r ((pts ss).take k) →
    ((∀ p ∈ pts ss, ev r p.1 = p.2) → ∀ H' t, Same H H' → H' t = some (.tup (((List.range ss.length).map fun i => ev r (gN i)).map vG)) → Q (.ref t) H') ∧
    ((¬ ∀ p ∈ pts ss, ev r p.1 = p.2) → ∀ H' d, Same H H' → H' d = some (xdW "parted") → E (.ref C) (some d) H'))
section
variable {P : Program} {w : World} {K : PySem.W.Frag} {mg : Str → Option Value} {base : Heap} {C fI cc cda : Addr}
theorem ok_given {f : Addr} {fd : FuncData} (F : Fun K "given_points" "given_points" sGiven f fd) (T : K8X.BeyTxt P K mg C fI cc cda) (ml : mg "len" = none) (me : mg "enumerate" = none) : FnOk P w K mg base (L2.CX P w) 2 f fd ["symbols", "k"] (spGiven K C) := by
  refine F.okX scGiven (fun vs H Q E h => ?_) (fun cdv A outer s H vs Q E hr h => ?_)
  · obtain ⟨a, ss, k, rfl, _⟩ := h
    rfl
  · obtain ⟨a, ss, k, rfl, hS, hlen, kL, kO⟩ := h
    refine ⟨_, pss_cons (ps_setLc (i := 2) (own := [("at", 3), ("symbol", 4)]) (g := gTup K 2 (gCons (gName 3) (gCons (gName 4) gNil))) rfl scGiven.nd rfl rfl (sw_true rfl rfl rfl (by decide +kernel))
        (pi_enumB (by rfl) me (pa_cons (pv 0) pa_nil)) (blkOk_by (own := [("at", 3), ("symbol", 4)]) (N := ["symbols", "k", "points", "at", "symbol"]) (sc := defScope sGiven) (by decide +kernel))
        (fun _ _ _ _ _ => pg_tup rfl (pgs_cons (pg_name (i := 3) scGiven.nd rfl (.inl rfl)) (pgs_cons (pg_name (i := 4) scGiven.nd rfl (.inl rfl)) pgs_nil)))
        (fun _ _ _ _ _ => pts_one (pt_cmpR op_notN (pv 4) pe_non (nomark _))) (fun _ _ _ _ _ => pe_tup (pa_cons (pv 3) (pa_cons (pv 4) pa_nil))))
      (pss_cons (ps_if (pt_cmpR op_ltN (pe_callB call_len_seq (by rfl) ml PySem.boot_len (pa_cons (pv 2) pa_nil)) (pv 1) (nomark _)) (pss_one (ps_raiseBey (C := C) rfl T hr (takes_of rfl rfl rfl rfl) (pa_cons pe_str pa_nil))) pss_nil)
      (pss_one (ps_ret (pv 2)))), ?_⟩
    obtain ⟨J, Gd, wk, hG, hR⟩ := enumA hS
    rw [List.length_map] at wk
    refine ⟨.ref a, rfl, a, _, rfl, hR _ fun D hD => ?_⟩
    refine lc_it wk (fun i H' => Same H H' ∧ ∃ bs : List Addr, H' D = some (.lst (bs.map V.ref)) ∧ bs.length = (pts (ss.take i)).length ∧ ∀ (j : Nat) b p, bs[j]? = some b → (pts (ss.take i))[j]? = some p → H' b = some (.tup [vG p.1, vG p.2]))
      ⟨sameNew (Same.refl H) hD, [], upd_same, rfl, fun j b p e => by simp at e⟩ (fun i H' _ ⟨s, _⟩ => hG H' s) ?_ ?_
    · rintro i v H2 H3 hi ⟨s2, bs, hB, lB, hb⟩ ⟨T', x1, x2, rfl, nT, rfl, hx1, hx2⟩
      cases hx1
      obtain ⟨so, hso⟩ := get_of hi
      have ex2 : x2 = vO so := by
        have z : (ss.map vO)[i]? = some x2 := hx2
        rw [List.getElem?_map, hso] at z
        exact (Option.some.inj z).symm
      subst ex2
      have s3 := sameNew (o := .tup [.int (i : Nat), vO so]) s2 nT
      have nB : D ≠ T' := ne_of_none hB nT
      have hB3 : (upd H2 T' (.tup [.int (i : Nat), vO so])) D = some (.lst (bs.map V.ref)) := by
        rw [upd_ne nB]
        exact hB
      refine ⟨T', _, rfl, .inl (.inl upd_same), rfl, _, _, rfl, _, _, rfl, rfl, rfl, ?_⟩
      refine ⟨_, rfl, rfl, _, rfl, ?_⟩
      rw [pts_take hso]
      cases so with
      | none =>
        refine iteF ⟨s3, bs, hB3, by rw [lB]; simp [one1], fun j b p e1 e2 => ?_⟩
        rw [show one1 i none = [] from rfl, List.append_nil] at e2
        rw [upd_ne (ne_of_none (hb j b p e1 e2) nT)]
        exact hb j b p e1 e2
      | some g =>
        have hne : (!decide (vO (some g) = V.non)) = true := by
          rw [decide_eq_false (fun z => nomatch z)]
          rfl
        rw [hne]
        refine iteT ⟨_, rfl, _, rfl, by show 2 ≤ sizeLine; decide, fun t ht => ?_⟩
        have nDt : D ≠ t := ne_of_none hB3 ht
        have hi16 : i < 128 := by omega
        refine ⟨bs.map V.ref, by rw [upd_ne nDt]; exact hB3, ?_, ?_, bs ++ [t], ?_, ?_, ?_⟩
        · rw [List.length_map, lB]
          have := pts_len (ss.take i)
          rw [List.length_take] at this
          exact small1000 (by omega)
        · exact sameWr (sameNew s3 ht) hD
        · rw [upd_same, List.map_append]
          rfl
        · rw [List.length_append, List.length_append, lB]
          rfl
        · intro j b p e1 e2
          rw [List.getElem?_append] at e1 e2
          rw [← lB] at e2
          split at e1
          · rename_i hlt
            rw [if_pos hlt] at e2
            have z := hb j b p e1 e2
            have z2 : b ≠ T' := ne_of_none z nT
            have z3 : (upd H2 T' (.tup [.int (i : Nat), vO (some g)])) b = some (.tup [vG p.1, vG p.2]) := by
              rw [upd_ne z2]
              exact z
            have z4 : b ≠ t := ne_of_none z3 ht
            have z5 : b ≠ D := fun e => by
              rw [e, hB] at z
              cases z
            rw [upd_ne z5, upd_ne z4]
            exact z3
          · rename_i hge
            rw [if_neg hge] at e2
            have ej : j - bs.length = 0 := by
              have := (List.getElem?_eq_some_iff.mp e1).1
              simp only [List.length_singleton] at this
              omega
            rw [ej] at e1 e2
            have eb : t = b := Option.some.inj e1
            have ep : (gN i, g) = p := Option.some.inj e2
            subst eb
            subst ep
            rw [upd_ne nDt.symm, upd_same]
            show some (HO.tup [V.int (i : Nat), vG g]) = some (.tup [vG (gN i), vG g])
            rw [vG_gN hi16]
    · rintro H2 ⟨s2, bs, hB, lB, hb⟩
      rw [List.take_length] at lB hb
      refine ⟨.ref D, rfl, D, _, rfl, .inl (.inl (.inl hB)), _, rfl, _, k, rfl, rfl, _, rfl, ite2N (fun c => ?_) (fun c => ?_)⟩
      · rw [List.length_map, lB] at c
        refine ⟨_, rfl, fun d hd => ?_⟩
        exact kL c _ d (sameNew s2 hd) upd_same
      · rw [List.length_map, lB] at c
        exact ⟨_, rfl, kO (by omega) H2 D s2 ⟨bs, .inl (.inl hB), lB, fun j b p e1 e2 => .inl (.inl (hb j b p e1 e2))⟩⟩
theorem ok_unlike {f : Addr} {fd : FuncData} (F : Fun K "unlike_places" "unlike_places" sUnlike f fd) : FnOk P w K mg base CX0 1 f fd ["word", "points"] (spUnlike K) := by
  refine F.ok scUnlike (fun vs H Q E h => ?_) (fun cdv A outer s H vs Q E hr h => ?_)
  · obtain ⟨a, b, wd, ps, rfl, _⟩ := h
    rfl
  · obtain ⟨a, b, wd, ps, rfl, hW, ⟨bs, hB, lB, hb⟩, hin, lps, k⟩ := h
    refine ⟨_, pss_one (ps_ret (pe_lc (own := [("at", 2), ("symbol", 3)]) (g := gTup K 2 (gCons (gName 2) (gCons (gName 3) gNil))) rfl scUnlike.nd (pi_list (pv 1))
        (blkOk_by (own := [("at", 2), ("symbol", 3)]) (N := ["word", "points", "at", "symbol"]) (sc := defScope sUnlike) (by decide +kernel))
        (fun _ _ _ _ _ => pg_tup rfl (pgs_cons (pg_name (i := 2) scUnlike.nd rfl (.inl rfl)) (pgs_cons (pg_name (i := 3) scUnlike.nd rfl (.inl rfl)) pgs_nil)))
        (fun _ _ _ _ _ => pts_one (pt_cmpR op_neN (pe_ix (r := rIxT K) ix_tup (pv 0) (pv 2) (fun _ _ => rfl)) (pv 3) (nomark _))) (fun _ _ _ _ _ => pv 2))), ?_⟩
    refine ⟨_, rfl, b, rfl, ⟨_, hB⟩, fun D hD => ?_⟩
    refine lc_list (K := K) (a := b) (xs := bs.map V.ref) (fun i H' => Same H H' ∧ H' D = some (.lst (((ps.take i).filter fun p => !decide ((wd.getD p.1.n 0).n = p.2.n)).map fun p => vG p.1)))
      ⟨sameNew (Same.refl H) hD, upd_same⟩ (fun i H' _ ⟨s, _⟩ => s.seq hB) ?_ ?_
    · rintro i v H2 hi ⟨s2, hL⟩
      obtain ⟨c, hc, rfl⟩ : ∃ c, bs[i]? = some c ∧ v = .ref c := by
        rw [List.getElem?_map] at hi
        cases e : bs[i]? with
        | none => rw [e] at hi; cases hi
        | some d => rw [e] at hi; exact ⟨d, rfl, (Option.some.inj hi).symm⟩
      have hil : i < ps.length := by
        rw [← lB]
        exact (List.getElem?_eq_some_iff.mp hc).1
      obtain ⟨p, hp⟩ := get_of hil
      have hw := hin p (List.mem_of_getElem? hp)
      obtain ⟨g, hg⟩ := get_of hw
      have eg : wd.getD p.1.n 0 = g := by rw [List.getD_eq_getElem?_getD, hg]; rfl
      refine ⟨c, _, rfl, sameT s2 (hb i c p hc hp), rfl, _, _, rfl, _, _, rfl, rfl, rfl, ?_⟩
      refine ⟨.ref a, rfl, _, rfl, a, _, _, vG g, rfl, rfl, sameT s2 hW, at_map hg, _, rfl, g.n, p.2.n, rfl, rfl, _, rfl, ?_⟩
      rw [take_snoc hp, List.filter_append, List.map_append]
      by_cases e : g.n = p.2.n
      · have ez : [p].filter (fun p => !decide ((wd.getD p.1.n 0).n = p.2.n)) = [] := by
          rw [List.filter_cons, eg, decide_eq_true e]
          rfl
        rw [decide_eq_true e, ez]
        refine iteF ⟨s2, ?_⟩
        rw [hL, List.map_nil, List.append_nil]
      · have ez : [p].filter (fun p => !decide ((wd.getD p.1.n 0).n = p.2.n)) = [p] := by
          rw [List.filter_cons, eg, decide_eq_false e]
          rfl
        rw [decide_eq_false e, ez]
        refine iteT ⟨_, rfl, _, hL, ?_, sameWr s2 hD, upd_same⟩
        rw [List.length_map]
        refine small1000 (Nat.le_trans (List.length_filter_le _ _) ?_)
        rw [List.length_take]
        omega
    · rintro H2 ⟨s2, hL⟩
      rw [List.length_map, lB, List.take_length] at hL
      exact k H2 D s2 hL
theorem unlike_nil {ps : List (G × G)} {r : List G} {n : Nat} (h : ∀ p ∈ ps, p.1.n < n) : (ps.filter fun p => !decide (((((List.range n).map fun i => ev r (gN i))).getD p.1.n 0).n = p.2.n)) = [] ↔ ∀ p ∈ ps, ev r p.1 = p.2 := by
  have e : ∀ p ∈ ps, (((List.range n).map fun i => ev r (gN i))).getD p.1.n 0 = ev r p.1 := fun p hp => by
    rw [List.getD_eq_getElem?_getD, List.getElem?_map, List.getElem?_range (h p hp)]
    show ev r (gN p.1.n) = _
    congr 1
    exact G.ext' (gN_n p.1.lt)
  rw [List.filter_eq_nil_iff]
  constructor
  · intro z p hp
    have q := z p hp
    rw [e p hp] at q
    simp at q
    exact G.ext' q
  · intro z p hp
    rw [e p hp, z p hp]
    simp
theorem ok_filled {f : Addr} {fd : FuncData} (F : Fun K "filled" "filled" sFilled f fd) (T : K8X.BeyTxt P K mg C fI cc cda) (NG : Kn P w K mg base (L2.CX P w) 2 "given_points" ["symbols", "k"] (spGiven K C)) (NW : Kn P w K mg base CX0 3 "word_of" ["p", "size"] (spWord K))
    (NT : Kn P w K mg base CX0 5 "poly_through" ["points"] (spPThru K)) (NU : Kn P w K mg base CX0 1 "unlike_places" ["word", "points"] (spUnlike K)) (ml : mg "len" = none) : FnOk P w K mg base (L2.CX P w) 6 f fd ["symbols", "k"] (spFilled K C) := by
  refine F.okX scFilled (fun vs H Q E h => ?_) (fun cdv A outer s H vs Q E hr h => ?_)
  · obtain ⟨a, ss, k, rfl, _⟩ := h
    rfl
  · obtain ⟨a, ss, k, rfl, hS, hlen, kL, kO⟩ := h
    refine ⟨_, pss_cons (ps_set (i := 2) scFilled.nd rfl (Or.inl rfl) (pe_kn (E := E) NG (hr.mono (by decide)) (passes_call (takes_of rfl rfl rfl rfl) fun _ _ _ _ z => z) (pa_cons (pv 0) (pa_cons (pv 1) pa_nil))))
      (pss_cons (ps_set (i := 3) scFilled.nd rfl (Or.inl rfl) (pe_k0 NW (hr.mono (by decide)) (pa_cons (pe_k0 NT hr (pa_cons (pe_slice sl_list (pv 2) po_none (po_some (pv 1))) pa_nil)) (pa_cons (pe_callB call_len_seq (by rfl) ml PySem.boot_len (pa_cons (pv 0) pa_nil)) pa_nil))))
      (pss_cons (ps_if (pt_truth (pe_k0 NU (hr.mono (by decide)) (pa_cons (pv 3) (pa_cons (pv 2) pa_nil))) (fun _ => rfl)) (pss_one (ps_raiseBey (C := C) rfl T hr (takes_of rfl rfl rfl rfl) (pa_cons pe_str pa_nil))) pss_nil)
      (pss_one (ps_ret (pv 3))))), ?_⟩
    refine ⟨_, rfl, _, rfl, a, ss, k, rfl, hS, hlen, kL, fun hk H1 p s1 hP => ?_⟩
    obtain ⟨bs, hB, lB, hb⟩ := id hP
    refine ⟨_, rfl, _, rfl, k, rfl, p, _, rfl, hB, fun c hc => ?_⟩
    have s2 := sameNew (o := .lst (cutV (bs.map V.ref) none (some (k : Int)))) (Same.refl H1) hc
    rw [cut_to _ _ (by rw [List.length_map, lB]; exact hk), ← List.map_take] at s2 ⊢
    have lpl := pts_len ss
    refine ⟨c, (pts ss).take k, rfl, PtsAt.take (.inl (.inl upd_same)) lB (fun i b p e1 e2 => sameT s2 (hb i b p e1 e2)), ?_, ?_, fun r hr3 H3 t s3 ht => ?_⟩
    · rw [List.map_take]
      exact (pts_nodup hlen).sublist (List.take_sublist _ _)
    · rw [List.length_take]
      omega
    have s13 : Same H H3 := s1.trans (s2.trans s3)
    refine ⟨.ref a, rfl, a, _, rfl, SqA.same s13 hS, t, r, ss.length, ?_, .inl (.inl ht), by omega, fun H4 t4 s4 h4 => ?_⟩
    · rw [List.length_map]
      rfl
    have hlt : ∀ q ∈ pts ss, q.1.n < ((List.range ss.length).map fun i => ev r (gN i)).length := fun q hq => by
      rw [List.length_map, List.length_range]
      exact pts_lt hlen hq
    refine ⟨_, rfl, _, rfl, t4, p, (List.range ss.length).map fun i => ev r (gN i), pts ss, rfl, .inl (.inl h4), hP.same (s2.trans (s3.trans s4)), hlt, by omega, fun H5 u s5 hu => ?_⟩
    have s15 : Same H H5 := s13.trans (s4.trans s5)
    obtain ⟨kA, kB⟩ := kO hk r hr3
    have un := unlike_nil (r := r) (ps := pts ss) (n := ss.length) fun q hq => pts_lt hlen hq
    refine ⟨_, .inl ⟨_, .inl (.inl hu), rfl⟩, ?_⟩
    by_cases e : (pts ss).filter (fun p => !decide ((((List.range ss.length).map fun i => ev r (gN i)).getD p.1.n 0).n = p.2.n)) = []
    · rw [e]
      refine iteF ?_
      exact ⟨_, rfl, kA (un.mp e) H5 t4 s15 (s5 _ _ h4)⟩
    · have ee : (!(((pts ss).filter fun p => !decide ((((List.range ss.length).map fun i => ev r (gN i)).getD p.1.n 0).n = p.2.n)).map fun p => vG p.1).isEmpty) = true := by
        rw [List.isEmpty_map]
        cases z : (pts ss).filter (fun p => !decide ((((List.range ss.length).map fun i => ev r (gN i)).getD p.1.n 0).n = p.2.n)) with
        | nil => exact absurd z e
        | cons x y => rfl
      rw [ee]
      refine iteT ⟨_, rfl, fun d hd => ?_⟩
      exact kB (fun z => e (un.mpr z)) _ d (sameNew s15 hd) upd_same
end
end K8

/-! Powers of x and logs. No program in sight. -/
namespace K8
def pwN : Nat → Nat
  | 0 => 1
  | i + 1 => xt (pwN i)
theorem pwN_lt : ∀ i, pwN i < 128
  | 0 => by decide
  | i + 1 => xt_lt (pwN_lt i)
def pw (i : Nat) : G := ⟨pwN i, pwN_lt i⟩
def lgS : Nat → Nat → Nat → Nat → Nat
  | 0, _, _, k => k
  | n + 1, cur, a, k => if cur = a then k else lgS n (xt cur) a (k + 1)
def lgN (a : Nat) : Nat := lgS 126 1 a 0
def lg (a : G) : Nat := lgN a.n
theorem lg_tab : ∀ a : Fin 128, a.1 = 0 ∨ (lgN a.1 < 127 ∧ pwN (lgN a.1) = a.1) := by decide +kernel
theorem lgpw_tab : ∀ i : Fin 127, lgN (pwN i.1) = i.1 ∧ pwN i.1 ≠ 0 := by decide +kernel
theorem pw127 : pwN 127 = 1 := by decide +kernel
theorem lg_lt {a : G} (h : a ≠ 0) : lg a < 127 := ((lg_tab ⟨a.n, a.lt⟩).resolve_left fun e => h (G.ext' e)).1
theorem pw_lg {a : G} (h : a ≠ 0) : pw (lg a) = a := G.ext' ((lg_tab ⟨a.n, a.lt⟩).resolve_left fun e => h (G.ext' e)).2
theorem lg_pw {i : Nat} (h : i < 127) : lg (pw i) = i := (lgpw_tab ⟨i, h⟩).1
theorem pw_inj {i j : Nat} (hi : i < 127) (hj : j < 127) (e : (pw i).n = (pw j).n) : i = j := by
  have e' : pw i = pw j := G.ext' e
  have := lg_pw hi
  rw [e', lg_pw hj] at this
  exact this.symm
def two : G := ⟨2, by decide⟩
theorem pw_zero : pw 0 = 1 := rfl
theorem pw_succ (i : Nat) : pw (i + 1) = two * pw i := G.ext' (xt_two_tab ⟨pwN i, pwN_lt i⟩)
theorem pw_add (i : Nat) : ∀ j, pw (i + j) = pw i * pw j
  | 0 => by
    rw [Nat.add_zero, pw_zero]
    grind
  | j + 1 => by
    rw [← Nat.add_assoc, pw_succ, pw_add i j, pw_succ]
    grind
theorem pw_q : ∀ q, pw (127 * q) = 1
  | 0 => rfl
  | q + 1 => by
    have e : pw 127 = 1 := G.ext' pw127
    rw [Nat.mul_succ, pw_add, pw_q q, e]
    grind
theorem pw_mod (n : Nat) : pw n = pw (n % 127) := by
  have e : n = 127 * (n / 127) + n % 127 := (Nat.div_add_mod n 127).symm
  rw [e, pw_add, pw_q, ← e]
  grind
def exI (z : Int) : G := pw (z % 127).toNat
theorem exI_of {z : Int} {n : Nat} (h : z % 127 = (n : Int) % 127) : exI z = pw n := by
  unfold exI
  rw [h, pw_mod n]
  congr 1
theorem exI_nat (n : Nat) : exI (n : Int) = pw n := exI_of rfl
theorem exI_add (a b : Int) : exI (a + b) = exI a * exI b := by
  have e : exI (a + b) = pw ((a % 127).toNat + (b % 127).toNat) := exI_of (by omega)
  rw [e, pw_add]
  rfl
theorem exI_ne (a : Int) : exI a ≠ 0 := fun e => by
  have h : (a % 127).toNat < 127 := by omega
  exact (lgpw_tab ⟨_, h⟩).2 (congrArg G.n e)
theorem exI_sub (a b : Int) : exI (a - b) = exI a * (exI b).inv := by
  have e := exI_add (a - b) b
  rw [Int.sub_add_cancel] at e
  have i := G.mul_inv (exI_ne b)
  rw [e]
  grind
theorem exI_lg {a : G} (h : a ≠ 0) : exI (lg a : Nat) = a := by rw [exI_nat, pw_lg h]
/-- the sum of the logs of x + a -/
def sumLg (x : G) : List G → Int
  | [] => 0
  | a :: r => (lg (x + a) : Nat) + sumLg x r
theorem exI_sum {x : G} : ∀ {l : List G}, x ∉ l → exI (sumLg x l) = prodX l x
  | [], _ => rfl
  | a :: r, h => by
    have h1 : x ≠ a := fun e => h (e ▸ List.mem_cons_self)
    show exI ((lg (x + a) : Nat) + sumLg x r) = (x + a) * prodX r x
    rw [exI_add, exI_lg (G.ne_add h1), exI_sum fun z => h (List.mem_cons_of_mem _ z)]
/-- one turn's part -/
theorem part_is {xs : List G} {x : G} {p : G × G} (hn : xs.Nodup) (hp : p.1 ∈ xs) (hx : x ∉ xs) (hy : p.2 ≠ 0) :
    exI ((lg p.2 : Nat) + sumLg x xs - (lg (x + p.1) : Nat) - sumLg p.1 (oth xs p.1)) = lagC xs p * prodX (oth xs p.1) x := by
  have hne : x ≠ p.1 := fun e => hx (e ▸ hp)
  have i := G.inv_mul (G.ne_add hne)
  rw [exI_sub, exI_sub, exI_add, exI_lg hy, exI_sum hx, exI_lg (G.ne_add hne), exI_sum oth_not, oth_split hn hp]
  unfold lagC
  grind
theorem part_zero {xs : List G} {x : G} {p : G × G} (hy : p.2 = 0) : lagC xs p * prodX (oth xs p.1) x = 0 := by
  unfold lagC
  rw [hy]
  grind
theorem lagV_append (xs : List G) (x : G) (p : G × G) : ∀ ps, lagV xs x (ps ++ [p]) = lagV xs x ps + lagC xs p * prodX (oth xs p.1) x
  | [] => by
    show lagC xs p * prodX (oth xs p.1) x + 0 = 0 + _
    grind
  | q :: r => by
    show lagC xs q * prodX (oth xs q.1) x + lagV xs x (r ++ [p]) = lagC xs q * prodX (oth xs q.1) x + lagV xs x r + _
    rw [lagV_append xs x p r]
    grind
/-- there is a polynomial through points -/
theorem thru_ex {ps : List (G × G)} (hn : (ps.map (·.1)).Nodup) : ∃ r, Thru r ps := by
  have hx : ∀ q ∈ ps, q.1 ∈ ps.map (·.1) := fun q hq => List.mem_map_of_mem hq
  refine ⟨lagP (ps.map (·.1)) ps, ?_, fun p hp => ?_⟩
  · have := lagP_len (ps.map (·.1)) ps hx
    rw [List.length_map] at this
    exact this
  · rw [lagP_ev]
    exact lagV_at _ ps p hn hx hp
end K8

set_option maxHeartbeats 1000000
/-! The law's pool of draws: its dict, mixed, pool, take. -/
namespace K8
open PySem PySem.Spec PyProof.Rows L2 K8R
/-! ### the pool's dict -/
def poolK (c : Addr) (at_ : Nat) (rest left : Int) (small : Bool) (seed turn : Int) : List (Key × V) :=
  [(.inr "cells", .ref c), (.inr "at", .int (at_ : Nat)), (.inr "rest", .int rest), (.inr "left", .int left), (.inr "small", .bl small), (.inr "seed", .int seed), (.inr "turn", .int turn)]
section
variable {c : Addr} {at_ : Nat} {rest left : Int} {small : Bool} {seed turn : Int}
theorem pk_cells : valV (poolK c at_ rest left small seed turn) (.inr "cells" : Key) = some (.ref c) := by rfl
theorem pk_at : valV (poolK c at_ rest left small seed turn) (.inr "at" : Key) = some (.int (at_ : Nat)) := by rfl
theorem pk_rest : valV (poolK c at_ rest left small seed turn) (.inr "rest" : Key) = some (.int rest) := by rfl
theorem pk_left : valV (poolK c at_ rest left small seed turn) (.inr "left" : Key) = some (.int left) := by rfl
theorem pk_small : valV (poolK c at_ rest left small seed turn) (.inr "small" : Key) = some (.bl small) := by rfl
theorem pk_seed : valV (poolK c at_ rest left small seed turn) (.inr "seed" : Key) = some (.int seed) := by rfl
theorem pk_turn : valV (poolK c at_ rest left small seed turn) (.inr "turn" : Key) = some (.int turn) := by rfl
theorem pp_turn (z : Int) : putK (poolK c at_ rest left small seed turn) (.inr "turn" : Key) (.int z) = poolK c at_ rest left small seed z := by rfl
theorem pp_at (z : Nat) : putK (poolK c at_ rest left small seed turn) (.inr "at" : Key) (.int (z : Nat)) = poolK c z rest left small seed turn := by rfl
theorem pp_rest (z : Int) : putK (poolK c at_ rest left small seed turn) (.inr "rest" : Key) (.int z) = poolK c at_ z left small seed turn := by rfl
theorem pp_left (z : Int) : putK (poolK c at_ rest left small seed turn) (.inr "left" : Key) (.int z) = poolK c at_ rest z small seed turn := by rfl
theorem pp_small (z : Bool) : putK (poolK c at_ rest left small seed turn) (.inr "small" : Key) (.bl z) = poolK c at_ rest left z seed turn := by rfl
end
/-- the pool stands at p: its dict and its list of cells -/
def PoolAt (H : Hp) (p c : Addr) : Prop := ∃ (cells : List Int) (at_ : Nat) (rest left : Int) (small : Bool) (seed turn : Int), H p = some (.dK (poolK c at_ rest left small seed turn)) ∧ H c = some (.lst (cells.map V.int))
/-- all that is tracked stays, but the pool's dict -/
def Keep (p : Addr) (H H' : Hp) : Prop := ∀ b o, H b = some o → b ≠ p → H' b = some o
theorem Keep.refl (p : Addr) (H : Hp) : Keep p H H := fun _ _ h _ => h
theorem Keep.trans {p : Addr} {H H1 H2 : Hp} (a : Keep p H H1) (b : Keep p H1 H2) : Keep p H H2 := fun c o h n => b c o (a c o h n) n
theorem keepNew {p q : Addr} {H H' : Hp} {o : HO} (s : Keep p H H') (n : H' q = none) : Keep p H (upd H' q o) := fun b x e hb => by
  have e' := s b x e hb
  rw [upd_ne (ne_of_none e' n)]
  exact e'
theorem keepWr {p : Addr} {H H' : Hp} {o : HO} (s : Keep p H H') : Keep p H (upd H' p o) := fun b x e hb => by
  rw [upd_ne hb]
  exact s b x e hb
theorem keepOf {p : Addr} {H H' : Hp} (s : Same H H') : Keep p H H' := fun b o e _ => s b o e
theorem pool_cell {H : Hp} {p c : Addr} {kvs : List (Key × V)} {xs : List V} (h1 : H p = some (.dK kvs)) (h2 : H c = some (.lst xs)) : c ≠ p := ne_of h2 h1 (by intro z; cases z)
/-- something new comes, the pool stands -/
theorem PoolAt.new {H : Hp} {p q c : Addr} {o : HO} (h : PoolAt H p c) (n : H q = none) : PoolAt (upd H q o) p c := by
  obtain ⟨cells, at_, rest, left, small, seed, turn, h1, h2⟩ := h
  exact ⟨cells, at_, rest, left, small, seed, turn, by rw [upd_ne (ne_of_none h1 n)]; exact h1, by rw [upd_ne (ne_of_none h2 n)]; exact h2⟩
theorem PoolAt.same {H H' : Hp} {p c : Addr} (h : PoolAt H p c) (s : Same H H') : PoolAt H' p c := by
  obtain ⟨cells, at_, rest, left, small, seed, turn, h1, h2⟩ := h
  exact ⟨cells, at_, rest, left, small, seed, turn, s _ _ h1, s _ _ h2⟩
/-- an object other than the pool's two is written -/
theorem PoolAt.wr {H : Hp} {p q c : Addr} {o : HO} (h : PoolAt H p c) (hp : q ≠ p) (hc : q ≠ c) : PoolAt (upd H q o) p c := by
  obtain ⟨cells, at_, rest, left, small, seed, turn, h1, h2⟩ := h
  exact ⟨cells, at_, rest, left, small, seed, turn, by rw [upd_ne hp.symm]; exact h1, by rw [upd_ne hc.symm]; exact h2⟩
theorem PoolAt.nep {H : Hp} {p q c : Addr} (h : PoolAt H p c) (n : H q = none) : q ≠ p := by
  obtain ⟨cells, at_, rest, left, small, seed, turn, h1, h2⟩ := h
  exact fun e => ne_of_none h1 n e.symm
theorem PoolAt.nec {H : Hp} {p q c : Addr} (h : PoolAt H p c) (n : H q = none) : q ≠ c := by
  obtain ⟨cells, at_, rest, left, small, seed, turn, h1, h2⟩ := h
  exact fun e => ne_of_none h2 n e.symm
def spMixed : Sp := fun vs H Q _ => ∃ n t m : Int, vs = [.int n, .int t, .int m] ∧ 0 < m ∧ ∀ v : Int, 0 ≤ v → v < m → Q (.int v) H
def spTake : Sp := fun vs H Q _ => ∃ (p c : Addr) (m : Nat), vs = [.ref p, .int m] ∧ 0 < m ∧ m < 1000 ∧ PoolAt H p c ∧ ∀ (v : Nat) H', v < m → PoolAt H' p c → Keep p H H' → Q (.int v) H'
def spPool (K : PySem.W.Frag) : Sp := fun vs H Q _ => ∃ (a : Addr) (ns : List Int), vs = [.ref a] ∧ SqL K H a (ns.map V.int) ∧ ns.length ≤ 63 ∧ ∀ H' p c, Same H H' → PoolAt H' p c → Q (.ref p) H'
section
variable {P : Program} {w : World} {K : PySem.W.Frag} {mg : Str → Option Value} {base : Heap}
theorem ok_mixed {f : Addr} {fd : FuncData} (F : Fun K "_law_mixed" "_law_mixed" sMixed f fd) (mi : mg "int" = none) : FnOk P w K mg base CX0 1 f fd ["_law_number", "_law_turn", "_law_many"] spMixed := by
  refine F.ok scMixed (fun vs H Q E h => ?_) (fun cdv A outer s H vs Q E hr h => ?_)
  · obtain ⟨n, t, m, rfl, _⟩ := h
    rfl
  · obtain ⟨n, t, m, rfl, hm, k⟩ := h
    refine ⟨_, pss_cons (ps_set (i := 3) scMixed.nd rfl (Or.inl rfl) pe_int)
      (pss_cons (ps_set (i := 4) scMixed.nd rfl (Or.inl rfl) (pe_op op_mod (pe_callTy call_int1 (by rfl) mi boot_int (pa_cons (pe_op op_add (pe_op op_add (pe_op op_mul (pv 0) pe_int) (pe_op op_mul (pv 1) pe_int)) pe_int) pa_nil)) (pv 3)))
      (pss_cons (ps_set (i := 5) scMixed.nd rfl (Or.inl rfl) (pe_op op_mod (pe_op op_mul (pe_callTy call_int1 (by rfl) mi boot_int (pa_cons (pe_op op_add (pe_op op_mul (pv 4) (pv 4)) (pv 1)) pa_nil)) pe_int) (pv 3)))
      (pss_one (ps_ret (pe_op op_mod (pe_op op_fdiv (pv 5) pe_int) (pv 2)))))), ?_⟩
    refine ⟨_, rfl, _, _, rfl, rfl, .inr ⟨by decide, by decide⟩, _, rfl, _, _, rfl, rfl, .inr ⟨by decide, by decide⟩, _, _, rfl, rfl, _, _, rfl, rfl, .inl ⟨_, rfl, _, rfl, _, _, rfl, rfl, (by show (0 : Int) < 2305843009213693951; decide), ?_⟩⟩
    have bz : ∀ a : Int, -(2 ^ 64) < a % 2305843009213693951 ∧ a % 2305843009213693951 < 2 ^ 64 := fun a => by
      have z0 := Int.emod_nonneg a (show (2305843009213693951 : Int) ≠ 0 by decide)
      have z1 := Int.emod_lt_of_pos a (show (0 : Int) < 2305843009213693951 by decide)
      omega
    refine ⟨_, rfl, _, rfl, _, _, rfl, rfl, .inl (bz _), _, rfl, _, _, rfl, rfl, .inl ⟨_, rfl, _, _, rfl, rfl, .inr ⟨by decide, by decide⟩, _, rfl, _, _, rfl, rfl, (by show (0 : Int) < 2305843009213693951; decide), ?_⟩⟩
    refine ⟨_, rfl, _, _, rfl, rfl, ⟨by decide, by decide⟩, _, rfl, _, _, rfl, rfl, hm, ?_⟩
    exact k _ (Int.emod_nonneg _ (by omega)) (Int.emod_lt_of_pos _ hm)
theorem getP {H : Hp} {p : Addr} {kvs : List (Key × V)} {k : Str} {v : V} (h : H p = some (.dK kvs)) (e : valV kvs (.inr k : Key) = some v) : DGet H p (.str k) (some v) := by
  have z := DGet.k (k := (.inr k : Key)) h
  rw [e] at z
  exact z
theorem putP {H : Hp} {p : Addr} {kvs kvs' : List (Key × V)} {k : Str} {v : V} (h : H p = some (.dK kvs)) (e : putK kvs (.inr k : Key) v = kvs') (hl : kvs.length < 1000) : DPut H p (.str k) v (upd H p (.dK kvs')) := by
  have z := DPut.k (k := (.inr k : Key)) (v := v) h (small1000 (Nat.le_of_lt hl))
  rw [e] at z
  exact z
theorem pool7 {c : Addr} {at_ : Nat} {rest left : Int} {small : Bool} {seed turn : Int} : (poolK c at_ rest left small seed turn).length < 1000 := by show 7 < 1000; decide
theorem nat_of_int {v : Int} {m : Nat} (h0 : 0 ≤ v) (h1 : v < (m : Int)) : ∃ n : Nat, n < m ∧ v = (n : Int) := ⟨v.toNat, by omega, by omega⟩
theorem ok_take {f : Addr} {fd : FuncData} (F : Fun K "_law_take" "_law_take" sTake f fd) (NM : Kn P w K mg base CX0 1 "_law_mixed" ["_law_number", "_law_turn", "_law_many"] spMixed) (mi : mg "int" = none) (ml : mg "len" = none) : FnOk P w K mg base CX0 2 f fd ["_law_pool_here", "_law_many"] spTake := by
  refine F.ok scTake (fun vs H Q E h => ?_) (fun cdv A outer s H vs Q E hr h => ?_)
  · obtain ⟨p, c, m, rfl, _⟩ := h
    rfl
  · obtain ⟨p, c, m, rfl, hm, hm2, hP, k⟩ := h
    have hu := hu_of hr
    refine ⟨_, pss_cons (ps_dput hu (pv 0) pe_str (pe_op op_add (pe_dget hu (pv 0) pe_str (fun _ _ => rfl)) pe_int) rfl)
      (C8.pss_cut (ps_if (PW.pt (pw_and (pt_cmpR op_eq (pe_dget hu (pv 0) pe_str (fun _ _ => rfl)) pe_int (nomark _)) (pw_and1 (pt_cmpR op_ltN (pe_dget hu (pv 0) pe_str (fun _ _ => rfl)) (pe_callB call_len_seq (by rfl) ml PySem.boot_len (pa_cons (pe_dget hu (pv 0) pe_str (fun _ _ => rfl)) pa_nil)) (nomark _)))))
          (pss_cons (ps_dput hu (pv 0) pe_str (pe_ix ix_list (pe_dget hu (pv 0) pe_str (fun _ _ => rfl)) (pe_dget hu (pv 0) pe_str (fun _ _ => rfl)) (fun _ _ => rfl)) rfl)
          (pss_cons (ps_dput hu (pv 0) pe_str (pe_op op_addN (pe_dget hu (pv 0) pe_str (fun _ _ => rfl)) pe_int) rfl)
          (pss_cons (ps_dput hu (pv 0) pe_str (pe_cmpR op_lt (pe_dget hu (pv 0) pe_str (fun _ _ => rfl)) (pe_op op_pow pe_int pe_int) (nomark _)) rfl)
          (pss_one (ps_dput hu (pv 0) pe_str (pe_ix ix_list (pe_lst (pa_cons pe_int (pa_cons pe_int pa_nil))) (pe_callTy call_int1 (by rfl) mi boot_int (pa_cons (pe_dget hu (pv 0) pe_str (fun _ _ => rfl)) pa_nil)) (fun _ _ => rfl)) rfl))))) pss_nil)
      (pss_cons (ps_if (pt_cmpR op_eq (pe_dget hu (pv 0) pe_str (fun _ _ => rfl)) pe_int (nomark _)) (pss_one (ps_ret (pe_k0 NM hr (pa_cons (pe_dget hu (pv 0) pe_str (fun _ _ => rfl)) (pa_cons (pe_dget hu (pv 0) pe_str (fun _ _ => rfl)) (pa_cons (pv 1) pa_nil)))))) pss_nil)
      (pss_cons (ps_dput hu (pv 0) pe_str (pe_op op_sub (pe_dget hu (pv 0) pe_str (fun _ _ => rfl)) pe_int) rfl)
      (pss_cons (ps_if (pt_truth (pe_dget hu (pv 0) pe_str (fun _ _ => rfl)) (fun _ => rfl)) (pss_one (ps_ret (pe_k0 NM hr (pa_cons (pe_dget hu (pv 0) pe_str (fun _ _ => rfl)) (pa_cons (pe_dget hu (pv 0) pe_str (fun _ _ => rfl)) (pa_cons (pv 1) pa_nil)))))) pss_nil)
      (pss_cons (ps_set (i := 2) scTake.nd rfl (Or.inl rfl) (pe_op op_mod (pe_callTy call_int1 (by rfl) mi boot_int (pa_cons (pe_dget hu (pv 0) pe_str (fun _ _ => rfl)) pa_nil)) (pv 1)))
      (pss_cons (ps_dput hu (pv 0) pe_str (pe_op op_fdiv (pe_dget hu (pv 0) pe_str (fun _ _ => rfl)) (pv 1)) rfl)
      (pss_cons (ps_if (pt_cmpR op_eq (pe_dget hu (pv 0) pe_str (fun _ _ => rfl)) pe_int (nomark _)) (pss_one (ps_dput hu (pv 0) pe_str pe_int rfl)) pss_nil)
      (pss_one (ps_ret (pv 2)))))))))), ?_⟩
    obtain ⟨cells, at_, rest, left, small, seed, turn, h1, h2⟩ := hP
    have ncp := pool_cell h1 h2
    -- turn + 1
    refine ⟨_, rfl, p, _, rfl, getP h1 pk_turn, _, _, rfl, rfl, _, rfl, p, _, rfl, putP h1 (pp_turn _) pool7, ?_⟩
    have g1 : ∀ o, (upd H p o) p = some o := fun o => upd_same
    refine ⟨fun σ H' => σ = [some (.ref p), some (.int m), none] ∧ PoolAt H' p c ∧ Keep p H H', ?_, ?_⟩
    · refine ⟨_, rfl, p, _, rfl, getP upd_same pk_left, rfl, _, rfl, ite2 (fun _ => ?_) (fun _ => iteF ⟨rfl, ⟨cells, at_, rest, left, small, seed, _, upd_same, by rw [upd_ne ncp]; exact h2⟩, keepWr (Keep.refl p H)⟩)⟩
      refine ⟨_, rfl, p, _, rfl, getP upd_same pk_at, _, rfl, p, _, rfl, getP upd_same pk_cells, c, _, rfl, .inl (.inl (.inl (by rw [upd_ne ncp]; exact h2))), at_, _, rfl, rfl, _, rfl, ite2N (fun hlt => ?_) (fun _ => ⟨rfl, ⟨cells, at_, rest, left, small, seed, _, upd_same, by rw [upd_ne ncp]; exact h2⟩, keepWr (Keep.refl p H)⟩)⟩
      rw [List.length_map] at hlt
      obtain ⟨z, hz⟩ := get_of hlt
      -- rest
      refine ⟨_, rfl, p, _, rfl, getP upd_same pk_cells, _, rfl, p, _, rfl, getP upd_same pk_at, c, _, _, .int z, rfl, rfl, .inl (.inl (by rw [upd_ne ncp]; exact h2)), atI_nat (by rw [List.getElem?_map, hz]; rfl), _, rfl, p, _, rfl, putP upd_same (pp_rest _) pool7, ?_⟩
      -- at
      refine ⟨_, rfl, p, _, rfl, getP upd_same pk_at, at_, 1, rfl, rfl, _, rfl, p, _, rfl, putP upd_same (pp_at _) pool7, ?_⟩
      -- small
      refine ⟨_, rfl, p, _, rfl, getP upd_same pk_rest, _, _, rfl, rfl, ⟨by decide, by decide, by decide⟩, _, _, rfl, rfl, _, rfl, p, _, rfl, putP upd_same (pp_small _) pool7, ?_⟩
      -- left
      refine ⟨by show 2 ≤ sizeLine; decide, fun l hl => ?_⟩
      have npl : p ≠ l := ne_of_none upd_same hl
      refine ⟨_, rfl, p, _, rfl, getP (by rw [upd_ne npl]; exact upd_same) pk_small, .inr ⟨_, rfl, ?_⟩⟩
      obtain ⟨w1, hw⟩ : ∃ w1 : Int, atI [V.int 60, V.int 2] (if decide (z < 10 ^ (18 : Int).toNat) = true then 1 else 0) = some (.int w1) := by
        cases decide (z < 10 ^ (18 : Int).toNat)
        · exact ⟨60, rfl⟩
        · exact ⟨2, rfl⟩
      refine ⟨l, _, _, _, rfl, rfl, .inl (.inl upd_same), hw, ?_⟩
      refine ⟨_, rfl, p, _, rfl, putP (by rw [upd_ne npl]; exact upd_same) (pp_left _) pool7, ?_⟩
      have ncl : c ≠ l := ne_of_none (H := upd (upd (upd (upd H p _) p _) p _) p _) (by rw [upd_ne ncp, upd_ne ncp, upd_ne ncp, upd_ne ncp]; exact h2) hl
      refine ⟨rfl, ⟨cells, _, _, _, _, _, _, upd_same, ?_⟩, ?_⟩
      · rw [upd_ne ncp, upd_ne ncl, upd_ne ncp, upd_ne ncp, upd_ne ncp, upd_ne ncp]
        exact h2
      · exact keepWr (keepNew (keepWr (keepWr (keepWr (keepWr (Keep.refl p H))))) hl)
    · rintro σ H1 ⟨rfl, hP1, k1⟩
      obtain ⟨cells, at_, rest, left, small, seed, turn, h1, h2⟩ := hP1
      have ncp := pool_cell h1 h2
      refine ⟨_, rfl, p, _, rfl, getP h1 pk_left, rfl, _, rfl, ite2 (fun _ => ?_) (fun _ => ?_)⟩
      · refine ⟨_, rfl, p, _, rfl, getP h1 pk_seed, _, rfl, p, _, rfl, getP h1 pk_turn, _, rfl, seed, turn, m, rfl, by omega, fun v v0 v1 => ?_⟩
        obtain ⟨n, hn, rfl⟩ := nat_of_int v0 v1
        exact k n H1 hn ⟨cells, at_, rest, left, small, seed, turn, h1, h2⟩ k1
      refine ⟨_, rfl, p, _, rfl, getP h1 pk_left, _, _, rfl, rfl, _, rfl, p, _, rfl, putP h1 (pp_left _) pool7, ?_⟩
      refine ⟨_, rfl, p, _, rfl, getP upd_same pk_small, small, rfl, ?_⟩
      have k2 : ∀ o, Keep p H (upd H1 p o) := fun o => keepWr k1
      cases small with
      | true =>
        refine iteT ⟨_, rfl, p, _, rfl, getP upd_same pk_rest, _, rfl, p, _, rfl, getP upd_same pk_turn, _, rfl, rest, turn, m, rfl, by omega, fun v v0 v1 => ?_⟩
        obtain ⟨n, hn, rfl⟩ := nat_of_int v0 v1
        exact k n _ hn ⟨cells, at_, rest, _, true, seed, turn, upd_same, by rw [upd_ne ncp]; exact h2⟩ (k2 _)
      | false =>
        refine iteF ⟨_, rfl, p, _, rfl, getP upd_same pk_rest, .inl ⟨_, rfl, _, rfl, _, m, rfl, rfl, by omega, ?_⟩⟩
        obtain ⟨n, hn, en⟩ := nat_of_int (m := m) (Int.emod_nonneg rest (show ((m : Nat) : Int) ≠ 0 by omega)) (Int.emod_lt_of_pos rest (by omega))
        have fin : ∀ o, PoolAt (upd H1 p o) p c → Keep p H (upd H1 p o) → Q (.int (rest % (m : Int))) (upd H1 p o) := fun o a b => by
          rw [en]
          exact k n _ hn a b
        refine ⟨_, rfl, p, _, rfl, getP upd_same pk_rest, _, rfl, _, m, rfl, rfl, ⟨by omega, by omega⟩, _, rfl, p, _, rfl, putP upd_same (pp_rest _) pool7, ?_⟩
        rw [upd_upd]
        refine ⟨_, rfl, p, _, rfl, getP upd_same pk_rest, rfl, _, rfl, ite2 (fun _ => ?_) (fun _ => ?_)⟩
        · refine ⟨_, rfl, p, _, rfl, putP upd_same (pp_left _) pool7, ?_⟩
          rw [upd_upd]
          exact ⟨_, rfl, fin _ ⟨cells, at_, _, _, false, seed, turn, upd_same, by rw [upd_ne ncp]; exact h2⟩ (k2 _)⟩
        · exact ⟨_, rfl, fin _ ⟨cells, at_, _, _, false, seed, turn, upd_same, by rw [upd_ne ncp]; exact h2⟩ (k2 _)⟩
theorem ok_pool {f : Addr} {fd : FuncData} (F : Fun K "_law_pool" "_law_pool" sPool f fd) (mi : mg "int" = none) (ml : mg "len" = none) (mL : mg "list" = none) : FnOk P w K mg base CX0 1 f fd ["_law_script"] (spPool K) := by
  refine F.ok scPool (fun vs H Q E h => ?_) (fun cdv A outer s H vs Q E hr h => ?_)
  · obtain ⟨a, ns, rfl, _⟩ := h
    rfl
  · obtain ⟨a, ns, rfl, hS, hlen, k⟩ := h
    refine ⟨_, pss_cons (ps_set (i := 1) scPool.nd rfl (Or.inl rfl) pe_int)
      (pss_cons (ps_for PassesOwn.never rfl (pi_list (pv 0)) (pg_name (i := 2) scPool.nd rfl (Or.inl rfl))
        (pss_one (ps_set (i := 1) scPool.nd rfl (Or.inl rfl) (pe_op op_mod (pe_callTy call_int1 (by rfl) mi boot_int (pa_cons (pe_op op_add (pe_op op_mul (pv 1) pe_int) (pv 2)) pa_nil)) pe_int))))
      (pss_cons (ps_set (i := 3) scPool.nd rfl (Or.inl rfl) (pe_callTy call_list_of (by rfl) mL (by decide +kernel) (pa_cons (pv 0) pa_nil)))
      (C8.pss_cut (ps_if (PW.pt (pw_and (pt_cmpR op_gtN (pe_callB call_len_seq (by rfl) ml PySem.boot_len (pa_cons (pv 3) pa_nil)) pe_int (nomark _)) (pw_and1 (pt_cmpR op_eq (pe_op op_mod (pe_callTy call_int1 (by rfl) mi boot_int (pa_cons (pe_ix ix_list (pv 3) pe_int (fun _ _ => rfl)) pa_nil)) pe_int) pe_int (nomark _)))))
          (pss_one (ps_set (i := 3) scPool.nd rfl (Or.inl rfl) (pe_lst pa_nil))) pss_nil)
      (C8.pss_cut (ps_if (pt_cmpR op_gtN (pe_callB call_len_seq (by rfl) ml PySem.boot_len (pa_cons (pv 3) pa_nil)) pe_int (nomark _)) (pss_one (ps_asg (pe_op op_fdiv (pe_ix ix_list (pv 3) pe_int (fun _ _ => rfl)) pe_int) (pg_sub (pv 3) pe_int set_list))) pss_nil)
      (pss_one (ps_ret (pe_disp (pps_cons pe_str (pv 3) (pps_cons pe_str pe_int (pps_cons pe_str pe_int (pps_cons pe_str pe_int (pps_cons pe_str pe_bl (pps_cons pe_str (pv 1) (pps_cons pe_str pe_int pps_nil))))))) (by rfl) (by rfl) (fun z => by cases z) (by decide)))))))), ?_⟩
    refine ⟨_, rfl, a, rfl, ⟨_, hS⟩, for_list (K := K) (a := a) (xs := ns.map V.int) (fun i σ H' => ∃ (z : Int) (y : Option V), σ = [some (.ref a), some (.int z), y, none] ∧ H' = H)
      ⟨7, none, rfl, rfl⟩ (fun i σ H' _ ⟨_, _, _, e⟩ => e ▸ hS) ?_ ?_⟩
    · rintro i v σ H' hi ⟨z, y, rfl, rfl⟩
      obtain ⟨n, rfl⟩ : ∃ n, v = .int n := by
        rw [List.getElem?_map] at hi
        cases e : ns[i]? with
        | none => rw [e] at hi; cases hi
        | some d => rw [e] at hi; exact ⟨d, (Option.some.inj hi).symm⟩
      exact ⟨_, rfl, _, _, rfl, rfl, .inr ⟨by decide, by decide⟩, _, rfl, _, _, rfl, rfl, .inl ⟨_, rfl, _, _, rfl, rfl, (by show (0 : Int) < 2305843009213693951; decide), _, _, rfl, rfl⟩⟩
    · rintro σ H' ⟨z, y, rfl, rfl⟩
      refine ⟨_, rfl, a, _, rfl, .inl hS, fun l hl => ?_⟩
      have s1 : Same H' (upd H' l (.lst (ns.map V.int))) := sameNew (Same.refl H') hl
      refine ⟨fun σ H2 => ∃ (c : Addr) (cells : List Int), σ = [some (.ref a), some (.int z), y, some (.ref c)] ∧ Same H' H2 ∧ H' c = none ∧ H2 c = some (.lst (cells.map V.int)), ?_, ?_⟩
      · refine ⟨.ref l, rfl, l, _, rfl, .inl (.inl (.inl upd_same)), _, 0, rfl, rfl, _, rfl, ite2N (fun c => ?_) (fun c => ?_)⟩
        · rw [List.length_map] at c
          obtain ⟨n, hn⟩ := get_of c
          refine ⟨.ref l, rfl, l, _, 0, .int n, rfl, rfl, .inl (.inl upd_same), atI_nat (j := 0) (by rw [List.getElem?_map, hn]; rfl), .inl ⟨_, rfl, _, _, rfl, rfl, (by show (0 : Int) < 2; decide), rfl, _, rfl, ite2 (fun _ => ?_) (fun _ => ?_)⟩⟩
          · exact ⟨by show 0 ≤ sizeLine; decide, fun l2 h2 => ⟨l2, [], rfl, sameNew s1 h2, s1.free h2, upd_same⟩⟩
          · exact ⟨l, ns, rfl, s1, hl, upd_same⟩
        · exact ⟨l, ns, rfl, s1, hl, upd_same⟩
      · rintro σ H2 ⟨c, cells, rfl, s2, hc0, hc⟩
        refine ⟨fun σ H2 => ∃ (c : Addr) (cells : List Int), σ = [some (.ref a), some (.int z), y, some (.ref c)] ∧ Same H' H2 ∧ H2 c = some (.lst (cells.map V.int)), ?_, ?_⟩
        · refine ⟨.ref c, rfl, c, _, rfl, .inl (.inl (.inl hc)), _, 0, rfl, rfl, _, rfl, ite2N (fun g => ?_) (fun _ => ⟨c, cells, rfl, s2, hc⟩)⟩
          rw [List.length_map] at g
          obtain ⟨n, hn⟩ := get_of g
          refine ⟨.ref c, rfl, c, _, 0, .int n, rfl, rfl, .inl (.inl hc), atI_nat (j := 0) (by rw [List.getElem?_map, hn]; rfl), _, _, rfl, rfl, ⟨by decide, by decide⟩, ?_⟩
          refine ⟨.ref c, rfl, c, _, 0, 0, rfl, rfl, hc, ixN_nat (j := 0) (by rw [List.length_map]; exact g), c, cells.set 0 (n / 2), rfl, sameWr s2 hc0, ?_⟩
          rw [upd_same, List.map_set]
        · rintro σ H3 ⟨c, cells, rfl, s3, hc⟩
          refine fun p hp => ⟨_, rfl, _, rfl, upd_same, [(.inr "cells", .ref c), (.inr "at", .int 0), (.inr "rest", .int 0), (.inr "left", .int 0), (.inr "small", .bl true), (.inr "seed", .int z), (.inr "turn", .int 0)], rfl, by show 7 ≤ 15; decide, ?_⟩
          have ncp : c ≠ p := ne_of_none hc hp
          rw [upd_upd]
          refine k _ p c (sameNew s3 hp) ⟨cells, 0, 0, 0, true, z, 0, ?_, by rw [upd_ne ncp]; exact hc⟩
          rw [upd_same]
          rfl
end
end K8

set_option maxHeartbeats 1000000
/-! The law's own tables. -/
namespace K8
open PySem PySem.Spec PyProof.Rows L2 K8R
def vN (n : Nat) : V := .int (n : Nat)
def pwL (n : Nat) : List G := (List.range n).map pw
theorem pwL_succ (n : Nat) : pwL (n + 1) = pwL n ++ [pw n] := by
  unfold pwL
  rw [List.range_succ, List.map_append]
  rfl
theorem pwL_len (n : Nat) : (pwL n).length = n := by unfold pwL; simp
theorem pwL_get {n i : Nat} (h : i < n) : (pwL n)[i]? = some (pw i) := by
  unfold pwL
  rw [List.getElem?_map, List.getElem?_range h]
  rfl
def LogsOf (Lg : List Nat) : Prop := Lg.length = 128 ∧ ∀ g : G, g ≠ 0 → Lg[g.n]? = some (lg g)
def fieldK (a b : Addr) : List (Key × V) := [(.inr "power", .ref a), (.inr "log", .ref b)]
theorem fk_power {a b : Addr} : valV (fieldK a b) (.inr "power" : Key) = some (.ref a) := by rfl
theorem fk_log {a b : Addr} : valV (fieldK a b) (.inr "log" : Key) = some (.ref b) := by rfl
def FieldAt (H : Hp) (f : Addr) : Prop := ∃ (a b : Addr) (Lg : List Nat), H f = some (.dK (fieldK a b)) ∧ H a = some (.lst ((pwL 127).map vG)) ∧ H b = some (.lst (Lg.map vN)) ∧ LogsOf Lg
theorem FieldAt.same {H H' : Hp} {f : Addr} (h : FieldAt H f) (s : Same H H') : FieldAt H' f := by
  obtain ⟨a, b, Lg, h1, h2, h3, h4⟩ := h
  exact ⟨a, b, Lg, s _ _ h1, s _ _ h2, s _ _ h3, h4⟩
theorem FieldAt.keep {H H' : Hp} {f p c : Addr} (h : FieldAt H f) (hp : PoolAt H p c) (s : Keep p H H') : FieldAt H' f := by
  obtain ⟨a, b, Lg, h1, h2, h3, h4⟩ := h
  obtain ⟨cells, at_, rest, left, small, seed, turn, g1, g2⟩ := hp
  refine ⟨a, b, Lg, s _ _ h1 fun e => ?_, s _ _ h2 fun e => ?_, s _ _ h3 fun e => ?_, h4⟩
  · rw [e, g1] at h1
    have z : (poolK c at_ rest left small seed turn).length = (fieldK a b).length := congrArg List.length (HO.dK.inj (Option.some.inj h1))
    exact absurd (show 7 = 2 from z) (by decide)
  · rw [e, g1] at h2
    cases h2
  · rw [e, g1] at h3
    cases h3
def spField : Sp := fun vs H Q _ => vs = [] ∧ ∀ H' f, Same H H' → FieldAt H' f → Q (.ref f) H'
section
variable {P : Program} {w : World} {K : PySem.W.Frag} {mg : Str → Option Value} {base : Heap}
theorem ok_field {f : Addr} {fd : FuncData} (F : Fun K "_law_field" "_law_field" sField f fd) (mr : mg "range" = none) : FnOk P w K mg base CX0 1 f fd [] spField := by
  refine F.ok scField (fun vs H Q E h => ?_) (fun cdv A outer s H vs Q E hr h => ?_)
  · obtain ⟨rfl, _⟩ := h
    rfl
  · obtain ⟨rfl, k⟩ := h
    refine ⟨_, pss_cons (ps_set (i := 0) scField.nd rfl (Or.inl rfl) (pe_lst (pa_cons pe_int pa_nil)))
      (pss_cons (ps_for PassesOwn.never rfl (pi_range1 (by rfl) mr (pa_cons pe_int pa_nil)) (pg_name (i := 1) scField.nd rfl (Or.inl rfl))
        (pss_cons (ps_set (i := 2) scField.nd rfl (Or.inl rfl) (pe_op op_mulN (pe_ix ix_list (pv 0) (pe_un un_neg pe_int) (fun _ _ => rfl)) pe_int))
        (pss_cons (ps_if (pt_cmpR op_gtN (pv 2) pe_int (nomark _)) (pss_one (ps_set (i := 2) scField.nd rfl (Or.inl rfl) (pe_op op_xorN (pv 2) pe_int))) pss_nil)
        (pss_one (ps_expr (pe_bm PySem.F.plainAttrs_list PySem.F.slot_list_append PySem.F.type_list_append mt_append (pv 0) (pa_cons (pv 2) pa_nil)))))))
      (pss_cons (ps_setLc (i := 3) (own := [("_law_k", 1)]) (g := gName 1) (tt := tYes) rfl scField.nd rfl rfl (sw_true rfl rfl rfl (by decide +kernel))
        (pi_range1 (by rfl) mr (pa_cons pe_int pa_nil)) (blkOk_by (own := [("_law_k", 1)]) (N := ["_law_power", "_law_k", "_law_doubled", "_law_log"]) (sc := defScope sField) (by decide +kernel))
        (fun _ _ _ _ _ => pg_name (i := 1) scField.nd rfl (.inl rfl)) (fun _ _ _ _ _ => pts_nil) (fun _ _ _ _ _ => pe_int))
      (pss_cons (ps_for PassesOwn.never rfl (pi_range1 (by rfl) mr (pa_cons pe_int pa_nil)) (pg_name (i := 1) scField.nd rfl (Or.inl rfl))
        (pss_one (ps_asg (pv 1) (pg_sub (pv 3) (pe_ix ix_list (pv 0) (pv 1) (fun _ _ => rfl)) set_list))))
      (pss_one (ps_ret (pe_disp (pps_cons pe_str (pv 0) (pps_cons pe_str (pv 3) pps_nil)) (by rfl) (by rfl) (fun z => by cases z) (by decide))))))), ?_⟩
    refine ⟨by show 1 ≤ sizeLine; decide, fun a ha => ?_⟩
    refine ⟨_, rfl, by decide, by decide, ?_⟩
    refine for_range (lo := 0) (n := 126) (fun i σ H' => ∃ y1 y2 : Option V, σ = [some (.ref a), y1, y2, none] ∧ Same H H' ∧ H' a = some (.lst ((pwL (i + 1)).map vG))) ⟨none, none, rfl, sameNew (Same.refl H) ha, upd_same⟩ ?_ ?_
    · rintro i σ H' hi ⟨y1, y2, rfl, s1, hl⟩
      have hlast : atI ((pwL (i + 1)).map vG) (-1) = some (vG (pw i)) := by
        rw [pwL_succ, List.map_append]
        exact atI_last _ _
      refine ⟨_, rfl, _, rfl, a, _, _, vG (pw i), rfl, rfl, .inl (.inl hl), hlast, (pw i).n, 2, rfl, rfl, Nat.lt_trans (pw i).lt (by decide), ?_⟩
      have ends : ∀ d : Nat, d = xt (pwN i) → ∃ l xs x, V.ref a = .ref l ∧ [V.int (d : Nat)] = [x] ∧ H' l = some (.lst xs) ∧ xs.length < sizeLine ∧ (∃ y1 y2 : Option V, [some (V.ref a), some (V.int (0 + (i : Nat))), some (V.int (d : Nat)), none] = [some (.ref a), y1, y2, none] ∧ Same H (upd H' l (.lst (xs ++ [x]))) ∧ (upd H' l (.lst (xs ++ [x]))) a = some (.lst ((pwL (i + 1 + 1)).map vG))) := by
        intro d hd
        refine ⟨a, _, _, rfl, rfl, hl, ?_, _, _, rfl, sameWr s1 ha, ?_⟩
        · rw [List.length_map, pwL_len]
          exact line_of (by omega)
        · rw [upd_same, pwL_succ (i + 1), List.map_append]
          subst hd
          rfl
      refine ⟨_, rfl, (pw i).n * 2, 127, rfl, rfl, _, rfl, ite2N (fun c => ?_) (fun c => ?_)⟩
      · refine ⟨_, rfl, (pw i).n * 2, 131, rfl, rfl, _, rfl, .inl ⟨rfl, _, .inl (.inl hl)⟩, _, rfl, ?_⟩
        exact ends _ (if_pos c).symm
      · refine ⟨_, rfl, .inl ⟨rfl, _, .inl (.inl hl)⟩, _, rfl, ?_⟩
        exact ends _ (if_neg c).symm
    · rintro σ H1 ⟨y1, y2, rfl, s1, hl⟩
      refine ⟨_, rfl, by decide, by decide, fun b hb => ?_⟩
      refine lc_range (lo := 0) (n := 128) (fun i H' => Same H H' ∧ H' a = some (.lst ((pwL 127).map vG)) ∧ H' b = some (.lst ((List.replicate i 0).map vN))) ⟨sameNew s1 hb, by rw [upd_ne (ne_of_none hl hb)]; exact hl, upd_same⟩ (fun i H' hi ⟨s2, h2, h3⟩ => ?_) (fun H' ⟨s2, h2, h3⟩ => ?_)
      · refine ⟨rfl, _, h3, ?_, sameWr s2 (s1.free hb), ?_, ?_⟩
        · rw [List.length_map, List.length_replicate]
          exact small1000 (by omega)
        · rw [upd_ne (fun e => by rw [e, hb] at hl; cases hl)]
          exact h2
        · rw [upd_same, List.replicate_succ', List.map_append]
          rfl
      have nba : b ≠ a := fun e => by rw [← e, hb] at hl; cases hl
      refine ⟨_, rfl, by decide, by decide, ?_⟩
      refine for_range (lo := 0) (n := 127) (fun i σ H' => ∃ (y1 y2 : Option V) (Lg : List Nat), σ = [some (.ref a), y1, y2, some (.ref b)] ∧ Same H H' ∧ H' a = some (.lst ((pwL 127).map vG)) ∧ H' b = some (.lst (Lg.map vN)) ∧ Lg.length = 128 ∧ ∀ j, j < i → Lg[(pw j).n]? = some j)
        ⟨_, _, _, rfl, s2, h2, h3, List.length_replicate, fun j hj => absurd hj (Nat.not_lt_zero j)⟩ ?_ ?_
      · rintro i σ H3 hi ⟨y1, y2, Lg, rfl, s3, g2, g3, gl, gj⟩
        have ei : V.int ((0 : Int) + (i : Nat)) = V.int (i : Nat) := by rw [Int.zero_add]
        rw [ei]
        have hp : (pw i).n < Lg.length := by rw [gl]; exact (pw i).lt
        refine ⟨_, rfl, _, rfl, _, rfl, _, rfl, a, _, _, vG (pw i), rfl, rfl, .inl (.inl g2), at_map (pwL_get hi), b, _, _, (pw i).n, rfl, rfl, g3, ixN_nat (by rw [List.length_map]; exact hp), ?_⟩
        refine ⟨_, _, Lg.set (pw i).n i, rfl, sameWr s3 (s1.free hb), ?_, ?_, by rw [List.length_set]; exact gl, fun j hj => ?_⟩
        · rw [upd_ne nba.symm]
          exact g2
        · rw [upd_same, List.map_set]
          rfl
        · by_cases e : j = i
          · subst e
            rw [List.getElem?_set_self hp]
          · rw [List.getElem?_set_ne (fun z => e (pw_inj (by omega) (by omega) z.symm))]
            exact gj j (by omega)
      · rintro σ H3 ⟨y1, y2, Lg, rfl, s3, g2, g3, gl, gj⟩
        refine fun p hp => ⟨_, rfl, _, rfl, upd_same, [(.inr "power", .ref a), (.inr "log", .ref b)], rfl, by show 2 ≤ 15; decide, ?_⟩
        rw [upd_upd]
        have s4 := sameNew (o := .dK (fieldK a b)) s3 hp
        refine k _ p s4 ⟨a, b, Lg, ?_, ?_, ?_, gl, fun g hg => ?_⟩
        · exact upd_same
        · rw [upd_ne (ne_of_none g2 hp)]
          exact g2
        · rw [upd_ne (ne_of_none g3 hp)]
          exact g3
        · have z := gj (lg g) (lg_lt hg)
          rw [pw_lg hg] at z
          exact z
end
end K8

set_option maxHeartbeats 2000000
/-! The law's own polynomial. -/
namespace K8
open PySem PySem.Spec PyProof.Rows L2 K8R
def spLThru (K : PySem.W.Frag) : Sp := fun vs H Q _ => ∃ (f a : Addr) (ps : List (G × G)) (n : Nat), vs = [.ref f, .ref a, .int n] ∧ FieldAt H f ∧ PtsAt K H a ps ∧ (ps.map (·.1)).Nodup ∧ ps.length ≤ 20 ∧ n ≤ 100 ∧
  ∀ r : List G, Thru r ps → ∀ H' t, Same H H' → H' t = some (.tup (((List.range n).map fun i => ev r (gN i)).map vG)) → Q (.ref t) H'
theorem at_f {α : Type} {l : List α} {i : Nat} {c : α} (g : α → V) (h : l[i]? = some c) : atI (l.map g) (i : Nat) = some (g c) := atI_nat (by rw [List.getElem?_map, h]; rfl)
def lgs (x : G) (l : List G) : List Int := l.map fun b => ((lg (x + b) : Nat) : Int)
theorem lgs_sum (x : G) : ∀ l : List G, (lgs x l).sum = sumLg x l
  | [] => rfl
  | b :: r => by
    show (((lg (x + b) : Nat) : Int) :: lgs x r).sum = _
    rw [List.sum_cons, lgs_sum x r]
    rfl
theorem oth_snoc (a b : G) (l : List G) : oth (l ++ [b]) a = oth l a ++ (if b = a then [] else [b]) := by
  unfold oth
  rw [List.filter_append, List.filter_cons]
  by_cases e : b = a
  · rw [if_pos e, if_neg (by simp [e])]
    rfl
  · rw [if_neg e, if_pos (by simp [e])]
    rfl
theorem at_pw (z : Int) : atI ((pwL 127).map vG) (z % 127) = some (vG (exI z)) := by
  have h : (z % 127).toNat < 127 := by omega
  have e : (z % 127) = (((z % 127).toNat : Nat) : Int) := by omega
  have q := at_f vG (pwL_get h)
  rw [← e] at q
  exact q
/-- what the points give at x -/
def gvs (x : G) (l : List (G × G)) : List G := (l.filter fun p => decide (p.1.n = x.n)).map (·.2)
theorem gvs_snoc (x : G) (l : List (G × G)) (p : G × G) : gvs x (l ++ [p]) = gvs x l ++ (if p.1.n = x.n then [p.2] else []) := by
  unfold gvs
  rw [List.filter_append, List.filter_cons, List.map_append]
  by_cases e : p.1.n = x.n
  · rw [if_pos e, if_pos (by simp [e])]
    rfl
  · rw [if_neg e, if_neg (by simp [e])]
    rfl
theorem gvs_mem {x : G} {l : List (G × G)} {y : G} (h : y ∈ gvs x l) : ∃ p ∈ l, p.1 = x ∧ p.2 = y := by
  obtain ⟨p, hp, e⟩ := List.mem_map.mp h
  obtain ⟨h1, h2⟩ := List.mem_filter.mp hp
  exact ⟨p, h1, G.ext' (of_decide_eq_true h2), e⟩
theorem gvs_none {x : G} {l : List (G × G)} (h : (gvs x l).length = 0) : x ∉ l.map (·.1) := fun m => by
  obtain ⟨p, hp, e⟩ := List.mem_map.mp m
  have : p.2 ∈ gvs x l := List.mem_map_of_mem (List.mem_filter.mpr ⟨hp, by simp [e]⟩)
  rw [List.eq_nil_of_length_eq_zero h] at this
  cases this
theorem ref_at {bs : List Addr} {i : Nat} {v : V} (h : (bs.map V.ref)[i]? = some v) : ∃ c, bs[i]? = some c ∧ v = .ref c := by
  rw [List.getElem?_map] at h
  cases e : bs[i]? with
  | none => rw [e] at h; cases h
  | some d => rw [e] at h; exact ⟨d, rfl, (Option.some.inj h).symm⟩
theorem wts_take {xs : List G} {ps : List (G × G)} {i : Nat} {p : G × G} (h : ps[i]? = some p) : ((ps.take (i + 1)).map fun p => sumLg p.1 (oth xs p.1)) = ((ps.take i).map fun p => sumLg p.1 (oth xs p.1)) ++ [sumLg p.1 (oth xs p.1)] := by
  rw [take_snoc h, List.map_append]
  rfl
section
variable {P : Program} {w : World} {K : PySem.W.Frag} {mg : Str → Option Value} {base : Heap}
abbrev nThru : List Str := ["_law_field_here", "_law_points", "_law_many", "_law_log", "_law_power", "_law_weights", "_law_word", "_law_x", "_law_value", "_law_given", "_law_whole", "_law_k", "_law_part", "_law_one", "_law_two"]
theorem ok_lthru {f : Addr} {fd : FuncData} (F : Fun K "_law_through" "_law_through" sThru f fd) (mr : mg "range" = none) (ml : mg "len" = none) (ms : mg "sum" = none) (mi : mg "int" = none) (mt : mg "tuple" = none) : FnOk P w K mg base CX0 1 f fd ["_law_field_here", "_law_points", "_law_many"] (spLThru K) := by
  refine F.ok scThru (fun vs H Q E h => ?_) (fun cdv A outer s H vs Q E hr h => ?_)
  · obtain ⟨f, a, ps, n, rfl, _⟩ := h
    rfl
  · obtain ⟨f, a, ps, n, rfl, hF, ⟨bs, hB, lB, hbp⟩, hn, lps, hnl, k⟩ := h
    have hu := hu_of hr
    refine ⟨_, pss_cons (ps_set (i := 3) scThru.nd rfl (Or.inr rfl) (pe_dget hu (pv 0) pe_str (fun _ _ => rfl)))
      (pss_cons (ps_set (i := 4) scThru.nd rfl (Or.inl rfl) (pe_dget hu (pv 0) pe_str (fun _ _ => rfl)))
      (pss_cons (ps_setLc (i := 5) (own := [("_law_one", 13)]) (g := gName 13) (tt := tYes) rfl scThru.nd rfl rfl (sw_true rfl rfl rfl (by decide +kernel))
        (pi_list (pv 1)) (blkOk_by (own := [("_law_one", 13)]) (N := nThru) (sc := defScope sThru) (by decide +kernel))
        (fun _ _ _ _ _ => pg_name (i := 13) scThru.nd rfl (.inr rfl)) (fun _ _ _ _ _ => pts_nil)
        (fun _ _ _ _ _ => pe_callB (r := rSum K) (cr_sum rfl) (by rfl) ms boot_sum (pa_cons (pe_lc (wi := iList K _) (own := [("_law_two", 14)]) (g := gName 14) rfl scThru.nd (pi_list (pv 1)) (blkOk_by (own := [("_law_two", 14)]) (N := nThru) (sc := relS _ (defScope sThru)) (by decide +kernel))
            (fun _ _ _ _ _ => pg_name (i := 14) scThru.nd rfl (.inl rfl))
            (fun _ _ _ _ _ => pts_one (pt_cmpR op_neN (pe_ix (r := rIxT K) ix_tup (pv 14) pe_int (fun _ _ => rfl)) (pe_ix (r := rIxT K) ix_tup (pv 13) pe_int (fun _ _ => rfl)) (nomark _)))
            (fun _ _ _ _ _ => pe_ix (r := rIxL K) ix_list (pv 3) (pe_op op_xorN (pe_ix (r := rIxT K) ix_tup (pv 13) pe_int (fun _ _ => rfl)) (pe_ix (r := rIxT K) ix_tup (pv 14) pe_int (fun _ _ => rfl))) (fun _ _ => rfl))) pa_nil)))
      (pss_cons (ps_set (i := 6) scThru.nd rfl (Or.inl rfl) (pe_lst pa_nil))
      (pss_cons (ps_for PassesOwn.never rfl (pi_range1 (by rfl) mr (pa_cons (pv 2) pa_nil)) (pg_name (i := 7) scThru.nd rfl (Or.inr rfl))
        (pss_cons (ps_set (i := 8) scThru.nd rfl (Or.inl rfl) pe_int)
        (pss_cons (ps_setLc (i := 9) (own := [("_law_one", 13)]) (g := gName 13) rfl scThru.nd rfl rfl (sw_true rfl rfl rfl (by decide +kernel))
            (pi_list (pv 1)) (blkOk_by (own := [("_law_one", 13)]) (N := nThru) (sc := defScope sThru) (by decide +kernel))
            (fun _ _ _ _ _ => pg_name (i := 13) scThru.nd rfl (.inl rfl))
            (fun _ _ _ _ _ => pts_one (pt_cmpR op_eqN (pe_ix (r := rIxT K) ix_tup (pv 13) pe_int (fun _ _ => rfl)) (pv 7) (nomark _)))
            (fun _ _ _ _ _ => pe_ix (r := rIxT K) ix_tup (pv 13) pe_int (fun _ _ => rfl)))
        (C8.pss_cut (ps_if (pt_cmpR op_gtN (pe_callB call_len_seq (by rfl) ml PySem.boot_len (pa_cons (pv 9) pa_nil)) pe_int (nomark _))
            (pss_one (ps_set (i := 8) scThru.nd rfl (Or.inl rfl) (pe_ix (r := rIxL K) ix_list (pv 9) pe_int (fun _ _ => rfl))))
            (pss_cons (ps_set (i := 10) scThru.nd rfl (Or.inl rfl) (pe_callB (cr_sum rfl) (by rfl) ms boot_sum (pa_cons (pe_lc (own := [("_law_one", 13)]) (g := gName 13) (tt := tYes) rfl scThru.nd (pi_list (pv 1)) (blkOk_by (own := [("_law_one", 13)]) (N := nThru) (sc := defScope sThru) (by decide +kernel))
                (fun _ _ _ _ _ => pg_name (i := 13) scThru.nd rfl (.inl rfl)) (fun _ _ _ _ _ => pts_nil)
                (fun _ _ _ _ _ => pe_ix (r := rIxL K) ix_list (pv 3) (pe_op op_xorN (pv 7) (pe_ix (r := rIxT K) ix_tup (pv 13) pe_int (fun _ _ => rfl))) (fun _ _ => rfl))) pa_nil)))
            (pss_one (ps_for PassesOwn.never rfl (pi_range1 (by rfl) mr (pa_cons (pe_callB call_len_seq (by rfl) ml PySem.boot_len (pa_cons (pv 1) pa_nil)) pa_nil)) (pg_name (i := 11) scThru.nd rfl (Or.inl rfl))
              (pss_one (ps_if (pt_cmpR op_neN (pe_ix (r := rIxT K) ix_tup (pe_ix (r := rIxL K) ix_list (pv 1) (pv 11) (fun _ _ => rfl)) pe_int (fun _ _ => rfl)) pe_int (nomark _))
                (pss_cons (ps_set (i := 12) scThru.nd rfl (Or.inl rfl) (pe_op op_sub (pe_op op_sub (pe_op op_add
                    (pe_ix (r := rIxL K) ix_list (pv 3) (pe_ix (r := rIxT K) ix_tup (pe_ix (r := rIxL K) ix_list (pv 1) (pv 11) (fun _ _ => rfl)) pe_int (fun _ _ => rfl)) (fun _ _ => rfl)) (pv 10))
                    (pe_ix (r := rIxL K) ix_list (pv 3) (pe_op op_xorN (pv 7) (pe_ix (r := rIxT K) ix_tup (pe_ix (r := rIxL K) ix_list (pv 1) (pv 11) (fun _ _ => rfl)) pe_int (fun _ _ => rfl))) (fun _ _ => rfl)))
                    (pe_ix (r := rIxL K) ix_list (pv 5) (pv 11) (fun _ _ => rfl))))
                (pss_one (ps_set (i := 8) scThru.nd rfl (Or.inl rfl) (pe_op op_xorN (pv 8) (pe_ix (r := rIxL K) ix_list (pv 4) (pe_op op_mod (pe_callTy call_int1 (by rfl) mi boot_int (pa_cons (pv 12) pa_nil)) pe_int) (fun _ _ => rfl)))))) pss_nil)))))
            )
        (pss_one (ps_expr (pe_bm PySem.F.plainAttrs_list PySem.F.slot_list_append PySem.F.type_list_append mt_append (pv 6) (pa_cons (pv 8) pa_nil))))))))
      (pss_one (ps_ret (pe_callTy call_tuple_of (by rfl) mt (by decide +kernel) (pa_cons (pv 6) pa_nil)))))))), ?_⟩
    obtain ⟨pa, la, Lg, hf, hpw, hlg, gl, glg⟩ := hF
    refine ⟨_, rfl, f, _, rfl, getP hf fk_log, _, rfl, f, _, rfl, getP hf fk_power, ?_⟩
    obtain ⟨r, hr0⟩ := thru_ex hn
    have hlog : ∀ g : G, g ≠ 0 → atI (Lg.map vN) (g.n : Nat) = some (vN (lg g)) := fun g hg => at_f vN (glg g hg)
    refine ⟨_, rfl, a, rfl, ⟨_, hB⟩, fun wl hwl => ?_⟩
    refine lc_list (K := K) (a := a) (xs := bs.map V.ref) (fun i H' => Same H H' ∧ H' wl = some (.lst (((ps.take i).map fun p => sumLg p.1 (oth (ps.map (·.1)) p.1)).map V.int)))
      ⟨sameNew (Same.refl H) hwl, upd_same⟩ (fun i H' _ ⟨s, _⟩ => s.seq hB) ?_ ?_
    · rintro i v H2 hi ⟨s2, hL⟩
      obtain ⟨c, hc, rfl⟩ := ref_at hi
      have hil : i < ps.length := by
        rw [← lB]
        exact (List.getElem?_eq_some_iff.mp hc).1
      obtain ⟨p, hp⟩ := get_of hil
      have hpS := hbp i c p hc hp
      refine ⟨rfl, ?_⟩
      refine ⟨_, rfl, a, rfl, ⟨_, s2.seq hB⟩, fun D hD => ?_⟩
      refine lc_list (K := K) (a := a) (xs := bs.map V.ref) (fun j H' => Same H2 H' ∧ H' D = some (.lst ((lgs p.1 (oth ((ps.take j).map (·.1)) p.1)).map V.int)))
        ⟨sameNew (Same.refl H2) hD, upd_same⟩ (fun j H' _ ⟨s, _⟩ => (s2.trans s).seq hB) ?_ ?_
      · rintro j v H3 hj ⟨s3, hM⟩
        obtain ⟨d, hd, rfl⟩ := ref_at hj
        have hjl : j < ps.length := by
          rw [← lB]
          exact (List.getElem?_eq_some_iff.mp hd).1
        obtain ⟨q, hq⟩ := get_of hjl
        have s23 := s2.trans s3
        have hqS := sameT s23 (hbp j d q hd hq)
        have hpS3 := sameT s23 hpS
        refine ⟨rfl, _, rfl, d, _, _, vG q.1, rfl, rfl, hqS, rfl, _, rfl, c, _, _, vG p.1, rfl, rfl, hpS3, rfl, q.1.n, p.1.n, rfl, rfl, _, rfl, ?_⟩
        rw [take_snoc hq, List.map_append]
        show if (!decide (q.1.n = p.1.n)) = true then _ else _
        rw [show oth ((ps.take j).map (·.1) ++ [q].map (·.1)) p.1 = oth ((ps.take j).map (·.1)) p.1 ++ (if q.1 = p.1 then [] else [q.1]) from oth_snoc _ _ _]
        by_cases e : q.1 = p.1
        · rw [decide_eq_true (congrArg G.n e), if_pos e, List.append_nil]
          exact iteF ⟨s3, hM⟩
        · rw [decide_eq_false (fun z => e (G.ext' z)), if_neg e]
          refine iteT ⟨_, rfl, _, rfl, c, _, _, vG p.1, rfl, rfl, hpS3, rfl, _, rfl, d, _, _, vG q.1, rfl, rfl, hqS, rfl, p.1.n, q.1.n, rfl, rfl, la, _, _, vN (lg (p.1 + q.1)), rfl, rfl, .inl (.inl (s23 _ _ hlg)), hlog (p.1 + q.1) (G.ne_add fun z => e z.symm), _, hM, ?_, sameWr s3 hD, ?_⟩
          · unfold lgs oth
            rw [List.length_map, List.length_map]
            refine small1000 (Nat.le_trans (List.length_filter_le _ _) ?_)
            rw [List.length_map, List.length_take]
            omega
          · unfold lgs
            rw [upd_same, List.map_append, List.map_append]
            rfl
      · rintro H3 ⟨s3, hM⟩
        rw [List.length_map, lB, List.take_length] at hM
        refine ⟨D, _, rfl, .inl (.inl hM), _, s3 _ _ hL, ?_, sameWr (s2.trans s3) hwl, ?_⟩
        · rw [List.length_map, List.length_map, List.length_take]
          exact small1000 (by omega)
        · rw [upd_same, lgs_sum, wts_take hp, List.map_append]
          rfl
    · rintro H1 ⟨s1, hW⟩
      rw [List.length_map, lB, List.take_length] at hW
      have hwt : ∀ (i : Nat) (p : G × G), ps[i]? = some p → atI ((ps.map fun p => sumLg p.1 (oth (ps.map (·.1)) p.1)).map V.int) (i : Nat) = some (V.int (sumLg p.1 (oth (ps.map (·.1)) p.1))) := fun i p hp => at_f V.int (by rw [List.getElem?_map, hp]; rfl)
      refine ⟨by show 0 ≤ sizeLine; decide, fun wd hwd => ?_⟩
      refine ⟨_, rfl, _, rfl, by omega, by omega, ?_⟩
      rw [Int.toNat_natCast]
      refine for_range (lo := 0) (n := n) (fun i σ H' => ∃ y7 y8 y9 y10 y11 y12 : Option V, σ = [some (.ref f), some (.ref a), some (.int n), some (.ref la), some (.ref pa), some (.ref wl), some (.ref wd), y7, y8, y9, y10, y11, y12, none, none] ∧ Same H1 H' ∧ H' wd = some (.lst (((List.range i).map fun i => ev r (gN i)).map vG)))
        ⟨none, none, none, none, none, none, rfl, sameNew (Same.refl H1) hwd, upd_same⟩ ?_ ?_
      · rintro i σ H2 hi ⟨y7, y8, y9, y10, y11, y12, rfl, s2, hWd⟩
        have e0 : V.int ((0 : Int) + (i : Nat)) = vG (gN i) := by rw [Int.zero_add, vG_gN (by omega)]
        rw [e0]
        generalize hx : gN i = x
        have s02 := s1.trans s2
        refine ⟨_, rfl, a, rfl, ⟨_, s02.seq hB⟩, fun D hD => ?_⟩
        refine lc_list (K := K) (a := a) (xs := bs.map V.ref) (fun j H' => Same H2 H' ∧ H' D = some (.lst ((gvs x (ps.take j)).map vG)))
          ⟨sameNew (Same.refl H2) hD, upd_same⟩ (fun j H' _ ⟨s, _⟩ => (s02.trans s).seq hB) ?_ ?_
        · rintro j v H3 hj ⟨s3, hM⟩
          obtain ⟨d, hd, rfl⟩ := ref_at hj
          have hjl : j < ps.length := by
            rw [← lB]
            exact (List.getElem?_eq_some_iff.mp hd).1
          obtain ⟨q, hq⟩ := get_of hjl
          have hqS := sameT (s02.trans s3) (hbp j d q hd hq)
          refine ⟨rfl, _, rfl, d, _, _, vG q.1, rfl, rfl, hqS, rfl, _, rfl, q.1.n, x.n, rfl, rfl, _, rfl, ?_⟩
          rw [take_snoc hq, gvs_snoc]
          by_cases e : q.1.n = x.n
          · rw [decide_eq_true e, if_pos e]
            refine iteT ⟨_, rfl, d, _, _, vG q.2, rfl, rfl, hqS, rfl, _, hM, ?_, sameWr s3 hD, ?_⟩
            · unfold gvs
              rw [List.length_map, List.length_map]
              refine small1000 (Nat.le_trans (List.length_filter_le _ _) ?_)
              rw [List.length_take]
              omega
            · rw [upd_same, List.map_append]
              rfl
          · rw [decide_eq_false e, if_neg e, List.append_nil]
            exact iteF ⟨s3, hM⟩
        · rintro H3 ⟨s3, hM⟩
          rw [List.length_map, lB, List.take_length] at hM
          have s03 := s02.trans s3
          refine ⟨fun σ H' => ∃ y9 y10 y11 y12 : Option V, σ = [some (.ref f), some (.ref a), some (.int n), some (.ref la), some (.ref pa), some (.ref wl), some (.ref wd), some (vG x), some (vG (ev r x)), y9, y10, y11, y12, none, none] ∧ Same H3 H', ?_, ?_⟩
          · refine ⟨_, rfl, D, _, rfl, .inl (.inl (.inl hM)), _, 0, rfl, rfl, _, rfl, ite2N (fun c => ?_) (fun c => ?_)⟩
            · rw [List.length_map] at c
              obtain ⟨y, hy⟩ := get_of c
              obtain ⟨q, hq, e1, e2⟩ := gvs_mem (List.mem_of_getElem? hy)
              have ey : y = ev r x := by rw [← e2, ← e1, hr0.2 q hq]
              subst ey
              exact ⟨_, rfl, D, _, _, _, rfl, rfl, .inl (.inl hM), at_map (j := 0) hy, _, _, _, _, rfl, Same.refl H3⟩
            · rw [List.length_map] at c
              have hxn : x ∉ ps.map (·.1) := gvs_none (by omega)
              have hne : ∀ p : G × G, p ∈ ps → x ≠ p.1 := fun p hp e => hxn (e ▸ List.mem_map_of_mem hp)
              refine ⟨_, rfl, a, rfl, ⟨_, s03.seq hB⟩, fun D2 hD2 => ?_⟩
              refine lc_list (K := K) (a := a) (xs := bs.map V.ref) (fun j H' => Same H3 H' ∧ H' D2 = some (.lst ((lgs x ((ps.take j).map (·.1))).map V.int)))
                ⟨sameNew (Same.refl H3) hD2, upd_same⟩ (fun j H' _ ⟨s, _⟩ => (s03.trans s).seq hB) ?_ ?_
              · rintro j v H4 hj ⟨s4, hM4⟩
                obtain ⟨d, hd, rfl⟩ := ref_at hj
                have hjl : j < ps.length := by
                  rw [← lB]
                  exact (List.getElem?_eq_some_iff.mp hd).1
                obtain ⟨q, hq⟩ := get_of hjl
                have s04 := s03.trans s4
                have hqS := sameT s04 (hbp j d q hd hq)
                refine ⟨rfl, ?_⟩
                refine ⟨_, rfl, _, rfl, _, rfl, d, _, _, vG q.1, rfl, rfl, hqS, rfl, x.n, q.1.n, rfl, rfl, la, _, _, vN (lg (x + q.1)), rfl, rfl, .inl (.inl (s04 _ _ hlg)), hlog (x + q.1) (G.ne_add (hne q (List.mem_of_getElem? hq))), _, hM4, ?_, sameWr s4 hD2, ?_⟩
                · unfold lgs
                  rw [List.length_map, List.length_map, List.length_map, List.length_take]
                  exact small1000 (by omega)
                · rw [upd_same, take_snoc hq]
                  unfold lgs
                  rw [List.map_append, List.map_append, List.map_append]
                  rfl
              · rintro H4 ⟨s4, hM4⟩
                rw [List.length_map, lB, List.take_length] at hM4
                have s04 := s03.trans s4
                refine ⟨D2, _, rfl, .inl (.inl hM4), ?_⟩
                rw [lgs_sum]
                refine ⟨_, rfl, a, _, rfl, .inl (s04.seq hB), _, rfl, ?_, ?_, ?_⟩
                · rw [List.length_map, lB]; omega
                · rw [List.length_map, lB]; omega
                rw [Int.toNat_natCast, List.length_map, lB]
                refine for_range (lo := 0) (n := ps.length) (fun j σ H' => ∃ y9 y11 y12 : Option V, σ = [some (.ref f), some (.ref a), some (.int n), some (.ref la), some (.ref pa), some (.ref wl), some (.ref wd), some (vG x), some (vG (lagV (ps.map (·.1)) x (ps.take j))), y9, some (.int (sumLg x (ps.map (·.1)))), y11, y12, none, none] ∧ Same H3 H')
                  ⟨_, _, _, rfl, s4⟩ ?_ ?_
                · rintro j σ H5 hj ⟨y9, y11, y12, rfl, s5⟩
                  have ej : V.int ((0 : Int) + (j : Nat)) = V.int (j : Nat) := by rw [Int.zero_add]
                  rw [ej]
                  have s05 := s03.trans s5
                  have s15 := s2.trans (s3.trans s5)
                  obtain ⟨p, hp⟩ := get_of hj
                  have hpm := List.mem_of_getElem? hp
                  obtain ⟨d, hd⟩ := get_of (l := bs) (j := j) (by rw [lB]; exact hj)
                  have hpS := sameT s05 (hbp j d p hd hp)
                  have hk : atI (bs.map V.ref) (j : Nat) = some (V.ref d) := at_f V.ref hd
                  have hB5 := s05.seq hB
                  refine ⟨_, rfl, _, rfl, a, _, _, _, rfl, rfl, hB5, hk, d, _, _, vG p.2, rfl, rfl, hpS, rfl, p.2.n, 0, rfl, rfl, _, rfl, ?_⟩
                  rw [take_snoc hp, lagV_append]
                  by_cases e : p.2.n = 0
                  · rw [decide_eq_true e, part_zero (G.ext' e)]
                    refine iteF ⟨y9, some (.int (j : Nat)), y12, ?_, s5⟩
                    rw [Lean.Grind.Semiring.add_zero]
                    rfl
                  · rw [decide_eq_false e]
                    have hy : p.2 ≠ 0 := fun z => e (congrArg G.n z)
                    have hpx : p.1 ∈ ps.map (·.1) := List.mem_map_of_mem hpm
                    refine iteT ⟨_, rfl, _, rfl, _, rfl, a, _, _, _, rfl, rfl, hB5, hk, d, _, _, vG p.2, rfl, rfl, hpS, rfl, la, _, _, vN (lg p.2), rfl, rfl, .inl (.inl (s05 _ _ hlg)), hlog p.2 hy, _, rfl, _, _, rfl, rfl, ?_⟩
                    refine ⟨_, rfl, _, rfl, _, rfl, _, rfl, a, _, _, _, rfl, rfl, hB5, hk, d, _, _, vG p.1, rfl, rfl, hpS, rfl, x.n, p.1.n, rfl, rfl, la, _, _, vN (lg (x + p.1)), rfl, rfl, .inl (.inl (s05 _ _ hlg)), hlog (x + p.1) (G.ne_add (hne p hpm)), _, _, rfl, rfl, ?_⟩
                    refine ⟨_, rfl, _, rfl, wl, _, _, _, rfl, rfl, .inl (.inl (s15 _ _ hW)), hwt j p hp, _, _, rfl, rfl, ?_⟩
                    refine ⟨_, rfl, _, rfl, _, rfl, .inl ⟨_, rfl, _, _, rfl, rfl, (by show (0 : Int) < 127; decide), pa, _, _, _, rfl, rfl, .inl (.inl (s05 _ _ hpw)), at_pw _, (lagV (ps.map (·.1)) x (ps.take j)).n, (exI _).n, rfl, rfl, ?_⟩⟩
                    rw [part_is hn hpx hxn hy]
                    exact ⟨y9, _, _, rfl, s5⟩
                · rintro σ H5 ⟨y9, y11, y12, rfl, s5⟩
                  rw [List.take_length, lag_is hn hr0]
                  exact ⟨_, _, _, _, rfl, s5⟩
          · rintro σ H4 ⟨y9, y10, y11, y12, rfl, s4⟩
            have hWd4 := s4 _ _ (s3 _ _ hWd)
            refine ⟨_, rfl, .inl ⟨rfl, _, .inl (.inl hWd4)⟩, _, rfl, wd, _, _, rfl, rfl, hWd4, ?_, ?_⟩
            · rw [List.length_map, List.length_map, List.length_range]
              exact small1000 (by omega)
            · refine ⟨_, _, _, _, _, _, rfl, sameWr (s2.trans (s3.trans s4)) hwd, ?_⟩
              rw [upd_same, List.range_succ, List.map_append, List.map_append]
              subst hx
              rfl
      · rintro σ H2 ⟨y7, y8, y9, y10, y11, y12, rfl, s2, hWd⟩
        refine ⟨_, rfl, wd, _, rfl, .inl ⟨.inl (.inl hWd), fun t ht => ?_⟩⟩
        exact k r hr0 _ t (sameNew (s1.trans s2) ht) upd_same
end
end K8

set_option maxHeartbeats 1000000
/-! The law's draws: a symbol, a shape, some places; is it a row. -/
namespace K8
open PySem PySem.Spec PyProof.Rows L2 K8R
def spSymbol : Sp := fun vs H Q _ => ∃ p c : Addr, vs = [.ref p] ∧ PoolAt H p c ∧ ∀ (g : G) H', PoolAt H' p c → Keep p H H' → Q (vG g) H'
def spShape : Sp := fun vs H Q _ => ∃ p c : Addr, vs = [.ref p, .int 16] ∧ PoolAt H p c ∧ ∀ (k r : Nat) (t : Addr) H', 1 ≤ k → k + r ≤ 16 → PoolAt H' p c → Keep p H H' → H' t = some (.tup [vN k, vN r]) → Q (.ref t) H'
def spIsRow (K : PySem.W.Frag) : Sp := fun vs H Q _ => ∃ (a b : Addr) (l : List G), vs = [.ref a, .ref b] ∧ H a = some (.tup (l.map vG)) ∧ SqT K H b (l.map vG) ∧ l.length ≤ 100 ∧ Q (.bl true) H
def spSome : Sp := fun vs H Q _ => ∃ (p c : Addr) (m n : Nat), vs = [.ref p, .int m, .int n] ∧ m ≤ n ∧ n ≤ 100 ∧ PoolAt H p c ∧ ∀ (ks : List Nat) (t : Addr) H', (∀ k ∈ ks, k < n) → PoolAt H' p c → Keep p H H' → H t = none → H' t = some (.lst (ks.map vN)) → Q (.ref t) H'
theorem Keep.free {p t : Addr} {H H' : Hp} (k : Keep p H H') (ht : t ≠ p) (n : H' t = none) : H t = none := by
  cases h : H t with
  | none => rfl
  | some o =>
    rw [k t o h ht] at n
    cases n
/-- an object that came later is written -/
theorem keepWrN {p q : Addr} {H H' : Hp} {o : HO} (s : Keep p H H') (n : H q = none) : Keep p H (upd H' q o) := fun b x e hb => by
  rw [upd_ne (ne_of_none e n)]
  exact s b x e hb
theorem seq_ix {v n : Nat} (h : v < n) : seqIndex? (v : Int) n = some v := by
  have h1 : ¬ ((v : Int) < 0) := by omega
  have h2 : (decide (0 ≤ (v : Int)) && decide ((v : Int) < (n : Int))) = true := by simp; omega
  unfold seqIndex?
  simp only [if_neg h1, h2, if_true, Int.toNat_natCast]
theorem map_erase : ∀ (l : List Nat) (v : Nat), (l.map vN).eraseIdx v = (l.eraseIdx v).map vN
  | [], _ => rfl
  | _ :: _, 0 => rfl
  | a :: r, v + 1 => congrArg (vN a :: ·) (map_erase r v)
theorem int_vN (l : List Nat) : (l.map vN).all flatV = true := by
  rw [List.all_map]
  exact List.all_eq_true.mpr fun _ _ => rfl
section
variable {P : Program} {w : World} {K : PySem.W.Frag} {mg : Str → Option Value} {base : Heap}
theorem ok_symbol {f : Addr} {fd : FuncData} (F : Fun K "_law_symbol" "_law_symbol" sSymbol f fd) (NT : Kn P w K mg base CX0 2 "_law_take" ["_law_pool_here", "_law_many"] spTake) : FnOk P w K mg base CX0 3 f fd ["_law_pool_here"] spSymbol := by
  refine F.ok scSymbol (fun vs H Q E h => ?_) (fun cdv A outer s H vs Q E hr h => ?_)
  · obtain ⟨p, c, rfl, _⟩ := h
    rfl
  · obtain ⟨p, c, rfl, hP, k⟩ := h
    refine ⟨_, pss_one (ps_ret (pe_ix ix_list (pe_lst (pa_cons pe_int (pa_cons pe_int (pa_cons pe_int (pa_cons (pe_k0 NT hr (pa_cons (pv 0) (pa_cons pe_int pa_nil))) (pa_cons (pe_k0 NT hr (pa_cons (pv 0) (pa_cons pe_int pa_nil))) pa_nil)))))) (pe_k0 NT hr (pa_cons (pv 0) (pa_cons pe_int pa_nil))) (fun _ _ => rfl))), ?_⟩
    refine ⟨_, rfl, p, c, 128, rfl, by decide, by decide, hP, fun v1 H1 hv1 hP1 k1 => ?_⟩
    refine ⟨_, rfl, p, c, 128, rfl, by decide, by decide, hP1, fun v2 H2 hv2 hP2 k2 => ?_⟩
    refine ⟨by show 5 ≤ sizeLine; decide, fun l hl => ?_⟩
    refine ⟨_, rfl, p, c, 5, rfl, by decide, by decide, hP2.new hl, fun i H3 hi hP3 k3 => ?_⟩
    have np : l ≠ p := hP2.nep hl
    have hL := k3 l _ upd_same np
    have el : [V.int 0, V.int 1, V.int 127, V.int (v1 : Nat), V.int (v2 : Nat)] = ([0, 1, ⟨127, by decide⟩, gN v1, gN v2] : List G).map vG := by
      rw [← vG_gN hv1, ← vG_gN hv2]
      rfl
    rw [el] at hL
    obtain ⟨g, hg⟩ := get_of (l := ([0, 1, ⟨127, by decide⟩, gN v1, gN v2] : List G)) hi
    exact ⟨l, _, _, vG g, rfl, rfl, .inl (.inl hL), at_map hg, k g H3 hP3 ((k1.trans k2).trans ((keepNew (Keep.refl p H2) hl).trans k3))⟩
theorem ok_shape {f : Addr} {fd : FuncData} (F : Fun K "_law_shape" "_law_shape" sShape f fd) (NT : Kn P w K mg base CX0 2 "_law_take" ["_law_pool_here", "_law_many"] spTake) (mm : mg "min" = none) : FnOk P w K mg base CX0 3 f fd ["_law_pool_here", "_law_most"] spShape := by
  refine F.ok scShape (fun vs H Q E h => ?_) (fun cdv A outer s H vs Q E hr h => ?_)
  · obtain ⟨p, c, rfl, _⟩ := h
    rfl
  · obtain ⟨p, c, rfl, hP, k⟩ := h
    refine ⟨_, pss_cons (ps_set (i := 2) scShape.nd rfl (Or.inl rfl) (pe_op op_addN pe_int (pe_k0 NT hr (pa_cons (pv 0) (pa_cons (pe_ix ix_list (pe_lst (pa_cons pe_int (pa_cons pe_int (pa_cons (pv 1) pa_nil)))) (pe_k0 NT hr (pa_cons (pv 0) (pa_cons pe_int pa_nil))) (fun _ _ => rfl)) pa_nil)))))
      (pss_one (ps_ret (pe_tup (pa_cons (pv 2) (pa_cons (pe_ix ix_list (pe_lst (pa_cons (pe_callB (call_min2 rfl) (by rfl) mm boot_min (pa_cons pe_int (pa_cons (pe_op op_subN (pv 1) (pv 2)) pa_nil)))
          (pa_cons (pe_k0 NT hr (pa_cons (pv 0) (pa_cons (pe_op op_subN (pe_op op_addN (pv 1) pe_int) (pv 2)) pa_nil))) (pa_cons (pe_op op_subN (pv 1) (pv 2)) pa_nil)))) (pe_k0 NT hr (pa_cons (pv 0) (pa_cons pe_int pa_nil))) (fun _ _ => rfl)) pa_nil))))), ?_⟩
    refine ⟨_, rfl, _, rfl, by show 3 ≤ sizeLine; decide, fun l hl => ?_⟩
    have s0 := keepNew (o := .lst [.int 2, .int 6, .int 16]) (Keep.refl p H) hl
    refine ⟨_, rfl, p, c, 3, rfl, by decide, by decide, hP.new hl, fun i H1 hi hP1 k1 => ?_⟩
    have np : l ≠ p := hP.nep hl
    have hL := k1 l _ upd_same np
    obtain ⟨m, hm, m0, m16⟩ : ∃ m : Nat, atI [V.int 2, V.int 6, V.int 16] (i : Nat) = some (.int (m : Nat)) ∧ 0 < m ∧ m ≤ 16 := by
      match i, hi with
      | 0, _ => exact ⟨2, rfl, by decide, by decide⟩
      | 1, _ => exact ⟨6, rfl, by decide, by decide⟩
      | 2, _ => exact ⟨16, rfl, by decide, by decide⟩
    refine ⟨l, _, _, _, rfl, rfl, .inl (.inl hL), hm, p, c, m, rfl, m0, by omega, hP1, fun v H2 hv hP2 k2 => ?_⟩
    have s2 := s0.trans (k1.trans k2)
    refine ⟨1, v, rfl, rfl, ?_⟩
    refine ⟨_, rfl, _, rfl, _, rfl, 16, 1 + v, rfl, rfl, by omega, _, _, rfl, ?_⟩
    obtain ⟨r1, hr1, hr1'⟩ : ∃ r1 : Nat, (if ((16 - (1 + v) : Nat) : Int) < 4 then ((16 - (1 + v) : Nat) : Int) else 4) = (r1 : Int) ∧ r1 + (1 + v) ≤ 16 := by
      by_cases c : ((16 - (1 + v) : Nat) : Int) < 4
      · exact ⟨16 - (1 + v), if_pos c, by omega⟩
      · exact ⟨4, if_neg c, by omega⟩
    rw [hr1]
    refine ⟨_, rfl, _, rfl, 16, 1, rfl, rfl, _, rfl, 16 + 1, 1 + v, rfl, rfl, by omega, p, c, _, rfl, by omega, by omega, hP2, fun r2 H3 hr2 hP3 k3 => ?_⟩
    refine ⟨_, rfl, _, rfl, 16, 1 + v, rfl, rfl, by omega, by show 3 ≤ sizeLine; decide, fun q hq => ?_⟩
    refine ⟨_, rfl, p, c, 3, rfl, by decide, by decide, hP3.new hq, fun j H4 hj hP4 k4 => ?_⟩
    have nq : q ≠ p := hP3.nep hq
    have hQ := k4 q _ upd_same nq
    obtain ⟨r, hr, r16⟩ : ∃ r : Nat, atI [V.int (r1 : Nat), V.int (r2 : Nat), V.int (16 - (1 + v) : Nat)] (j : Nat) = some (.int (r : Nat)) ∧ r + (1 + v) ≤ 16 := by
      match j, hj with
      | 0, _ => exact ⟨r1, rfl, hr1'⟩
      | 1, _ => exact ⟨r2, rfl, by omega⟩
      | 2, _ => exact ⟨16 - (1 + v), rfl, by omega⟩
    refine ⟨q, _, _, _, rfl, rfl, .inl (.inl hQ), hr, by show 2 ≤ sizeLine; decide, fun t ht => ?_⟩
    have s4 := s2.trans (k3.trans ((keepNew (Keep.refl p H3) hq).trans k4))
    exact k (1 + v) r t _ (by omega) (by omega) (hP4.new ht) (keepNew s4 ht) upd_same
theorem ok_isrow {f : Addr} {fd : FuncData} (F : Fun K "_law_is_row" "_law_is_row" sIsRow f fd) (ml : mg "len" = none) (mr : mg "range" = none) (ms : mg "isinstance" = none) (mi : mg "int" = none) (mb : mg "bool" = none) (mt : mg "tuple" = none) : FnOk P w K mg base CX0 1 f fd ["_law_actual", "_law_due"] (spIsRow K) := by
  refine F.ok scIsRow (fun vs H Q E h => ?_) (fun cdv A outer s H vs Q E hr h => ?_)
  · obtain ⟨a, b, l, rfl, _⟩ := h
    rfl
  · obtain ⟨a, b, l, rfl, hA, hB, ll, k⟩ := h
    refine ⟨_, pss_cons (ps_if (PW.pt (pw_or (pt_not (pt_truth (pe_callB call_isi (by rfl) ms boot_isinstance (pa_cons (pv 0) (pa_cons (pe_bltn (v := .ty "tuple") (by rfl) mt boot_tuple rfl) pa_nil))) (fun _ => rfl)))
          (pw_or1 (pt_cmpR op_neN (pe_callB call_len_seq (by rfl) ml PySem.boot_len (pa_cons (pv 0) pa_nil)) (pe_callB call_len_seq (by rfl) ml PySem.boot_len (pa_cons (pv 1) pa_nil)) (nomark _)))))
        (pss_one ps_never) pss_nil)
      (pss_cons (ps_for PassesOwn.never rfl (pi_range1 (by rfl) mr (pa_cons (pe_callB call_len_seq (by rfl) ml PySem.boot_len (pa_cons (pv 1) pa_nil)) pa_nil)) (pg_name (i := 2) scIsRow.nd rfl (Or.inl rfl))
        (pss_one (ps_if (PW.pt (pw_or (pt_not (pt_truth (pe_callB call_isi (by rfl) ms boot_isinstance (pa_cons (pe_ix ix_tup (pv 0) (pv 2) (fun _ _ => rfl)) (pa_cons (pe_bltn (v := .ty "int") (by rfl) mi boot_int rfl) pa_nil))) (fun _ => rfl)))
            (pw_or (pt_truth (pe_callB call_isi (by rfl) ms boot_isinstance (pa_cons (pe_ix ix_tup (pv 0) (pv 2) (fun _ _ => rfl)) (pa_cons (pe_bltn (v := .ty "bool") (by rfl) mb boot_bool rfl) pa_nil))) (fun _ => rfl))
            (pw_or1 (pt_cmpR op_neN (pe_ix ix_tup (pv 0) (pv 2) (fun _ _ => rfl)) (pe_ix ix_tup (pv 1) (pv 2) (fun _ _ => rfl)) (nomark _))))))
          (pss_one ps_never) pss_nil)))
      (pss_one (ps_ret pe_bl))), ?_⟩
    refine ⟨_, rfl, _, _, _, _, true, rfl, .ty _, .base (.tup hA), kit_ty (by decide +kernel), true, rfl, iteF ?_⟩
    refine ⟨_, rfl, a, _, rfl, .inr (.inl (.inl hA)), _, rfl, b, _, rfl, .inr hB, (l.map vG).length, (l.map vG).length, rfl, rfl, _, rfl, ?_⟩
    rw [decide_eq_true rfl]
    refine iteF ?_
    refine ⟨_, rfl, b, _, rfl, .inr hB, _, rfl, ?_, ?_, ?_⟩
    · rw [List.length_map]; omega
    · rw [List.length_map]; omega
    rw [Int.toNat_natCast, List.length_map]
    refine for_range (lo := 0) (n := l.length) (fun i σ H' => ∃ y : Option V, σ = [some (.ref a), some (.ref b), y] ∧ H' = H) ⟨none, rfl, rfl⟩ ?_ ?_
    · rintro i σ H' hi ⟨y, rfl, rfl⟩
      have e0 : V.int ((0 : Int) + (i : Nat)) = V.int (i : Nat) := by rw [Int.zero_add]
      rw [e0]
      obtain ⟨g, hg⟩ := get_of hi
      refine ⟨_, rfl, _, rfl, a, _, _, vG g, rfl, rfl, .inl (.inl hA), at_map hg, _, _, _, _, true, rfl, .ty _, .base (.int _), kit_ty (by decide +kernel), true, rfl, iteF ?_⟩
      refine ⟨_, rfl, _, rfl, a, _, _, vG g, rfl, rfl, .inl (.inl hA), at_map hg, _, _, _, _, false, rfl, .ty _, .base (.int _), kit_ty (by decide +kernel), false, rfl, iteF ?_⟩
      refine ⟨_, rfl, _, rfl, a, _, _, vG g, rfl, rfl, .inl (.inl hA), at_map hg, _, rfl, _, rfl, b, _, _, vG g, rfl, rfl, hB, at_map hg, g.n, g.n, rfl, rfl, _, rfl, ?_⟩
      rw [decide_eq_true rfl]
      exact iteF ⟨_, rfl, rfl⟩
    · rintro σ H' ⟨y, rfl, rfl⟩
      exact k
theorem ok_some {f : Addr} {fd : FuncData} (F : Fun K "_law_some" "_law_some" sSome f fd) (NT : Kn P w K mg base CX0 2 "_law_take" ["_law_pool_here", "_law_many"] spTake) (ml : mg "len" = none) (mr : mg "range" = none) (mL : mg "list" = none) : FnOk P w K mg base CX0 3 f fd ["_law_pool_here", "_law_many", "_law_from_many"] spSome := by
  refine F.ok scSome (fun vs H Q E h => ?_) (fun cdv A outer s H vs Q E hr h => ?_)
  · obtain ⟨p, c, m, n, rfl, _⟩ := h
    rfl
  · obtain ⟨p, c, m, n, rfl, hmn, hn, hP, k⟩ := h
    refine ⟨_, pss_cons (ps_set (i := 3) scSome.nd rfl (Or.inl rfl) (pe_listRg rfl (by rfl) mL (prg_1 (by rfl) mr (pv 2))))
      (pss_cons (ps_set (i := 4) scSome.nd rfl (Or.inr rfl) (pe_lst pa_nil))
      (pss_cons (ps_for PassesOwn.never rfl (pi_range1 (by rfl) mr (pa_cons (pv 1) pa_nil)) (pg_name (i := 5) scSome.nd rfl (Or.inl rfl))
        (pss_one (ps_expr (pe_bm PySem.F.plainAttrs_list PySem.F.slot_list_append PySem.F.type_list_append mt_append (pv 4)
          (pa_cons (pe_bm PySem.F.plainAttrs_list PySem.F.slot_list_pop PySem.F.type_list_pop mt_popAt (pv 3) (pa_cons (pe_k0 NT hr (pa_cons (pv 0) (pa_cons (pe_callB call_len_seq (by rfl) ml PySem.boot_len (pa_cons (pv 3) pa_nil)) pa_nil))) pa_nil)) pa_nil)))))
      (pss_one (ps_ret (pe_lc (own := [("_law_k", 5)]) (g := gName 5) rfl scSome.nd (pi_range1 (by rfl) mr (pa_cons (pv 2) pa_nil))
        (blkOk_by (own := [("_law_k", 5)]) (N := ["_law_pool_here", "_law_many", "_law_from_many", "_law_left", "_law_chosen", "_law_k"]) (sc := defScope sSome) (by decide +kernel))
        (fun _ _ _ _ _ => pg_name (i := 5) scSome.nd rfl (Or.inl rfl)) (fun _ _ _ _ _ => pts_one (pt_cmpR (r := rIn K false) op_in_seq (pv 5) (pv 4) (by with_unfolding_all rfl))) (fun _ _ _ _ _ => pv 5)))))), ?_⟩
    refine ⟨_, rfl, n, rfl, RgOk.of_le (by omega) (by omega) (by omega) (by omega), fun l hl => ?_⟩
    have el : rgV 0 (n : Int) = (List.range n).map vN := by
      unfold rgV
      rw [show ((n : Int) - 0).toNat = n by omega]
      refine List.map_congr_left fun i _ => ?_
      rw [Int.zero_add]
      rfl
    rw [el]
    have nlp := hP.nep hl
    have nlc := hP.nec hl
    refine ⟨by show 0 ≤ sizeLine; decide, fun ch hch => ?_⟩
    have k0 := keepNew (o := .lst ((List.range n).map vN)) (Keep.refl p H) hl
    have hP0 := hP.new (o := .lst ((List.range n).map vN)) hl
    have nhp := hP0.nep hch
    have nhc := hP0.nec hch
    have hchH : H ch = none := k0.free nhp hch
    have nlh : l ≠ ch := fun e => by rw [e, ← e, upd_same] at hch; cases hch
    refine ⟨_, rfl, _, rfl, by omega, by omega, ?_⟩
    rw [Int.toNat_natCast]
    refine for_range (lo := 0) (n := m) (fun i σ H' => ∃ (y : Option V) (L C : List Nat), σ = [some (.ref p), some (.int m), some (.int n), some (.ref l), some (.ref ch), y] ∧ PoolAt H' p c ∧ Keep p H H' ∧ H' l = some (.lst (L.map vN)) ∧ H' ch = some (.lst (C.map vN)) ∧ L.length = n - i ∧ C.length = i)
      ⟨none, List.range n, [], rfl, hP0.new hch, keepNew k0 hch, by rw [upd_ne nlh]; exact upd_same, upd_same, List.length_range, rfl⟩ ?_ ?_
    · rintro i σ H1 hi ⟨y, L, C, rfl, hP1, k1, hL, hC, lL, lC⟩
      refine ⟨_, rfl, .inl ⟨rfl, _, .inl (.inl hC)⟩, _, rfl, .inl ⟨rfl, _, .inl (.inl hL)⟩, ?_⟩
      refine ⟨_, rfl, _, rfl, l, _, rfl, .inl (.inl (.inl hL)), p, c, L.length, ?_, by omega, by omega, hP1, fun v H2 hv hP2 k2 => ?_⟩
      · rw [List.length_map]
        rfl
      have hL2 := k2 l _ hL nlp
      have hC2 := k2 ch _ hC nhp
      obtain ⟨z, hz⟩ := get_of hv
      have hsx : seqIndex? (v : Int) (L.map vN).length = some v := seq_ix (by rw [List.length_map]; exact hv)
      refine ⟨l, _, v, v, vN z, rfl, rfl, hL2, by omega, by omega, hsx, by rw [List.getElem?_map, hz]; rfl, ?_⟩
      have e1 : (L.map vN).eraseIdx v = (L.eraseIdx v).map vN := map_erase _ _
      rw [e1]
      have hlz : H1 l ≠ none := by rw [hL]; exact fun z => nomatch z
      refine ⟨ch, _, _, rfl, rfl, by rw [upd_ne nlh.symm]; exact hC2, ?_, ?_⟩
      · rw [List.length_map]
        exact small1000 (by omega)
      · refine ⟨_, L.eraseIdx v, C ++ [z], rfl, (hP2.wr nlp nlc).wr nhp nhc, keepWrN (keepWrN (k1.trans k2) hl) hchH, by rw [upd_ne nlh, upd_same], ?_, ?_, ?_⟩
        · rw [upd_same, List.map_append]
          rfl
        · rw [List.length_eraseIdx_of_lt hv]
          omega
        · rw [List.length_append, lC]
          rfl
    · rintro σ H1 ⟨y, L, C, rfl, hP1, k1, hL, hC, lL, lC⟩
      refine ⟨_, rfl, _, rfl, by omega, by omega, fun D hD => ?_⟩
      rw [Int.toNat_natCast]
      refine lc_range (lo := 0) (n := n) (fun i H' => Same H1 H' ∧ ∃ ks : List Nat, H' D = some (.lst (ks.map vN)) ∧ ks.length ≤ i ∧ ∀ k ∈ ks, k < n) ⟨sameNew (Same.refl H1) hD, [], upd_same, Nat.le_refl _, fun k hk => nomatch hk⟩ (fun i H' hi ⟨s1, ks, hks, lks, hlt⟩ => ?_) (fun H' ⟨s1, ks, hks, lks, hlt⟩ => ?_)
      · refine ⟨rfl, _, rfl, _, rfl, ch, _, rfl, .inl (.inl (.inl (s1 _ _ hC))), rfl, int_vN _, _, rfl, ?_⟩
        cases inV (V.int (0 + (i : Nat))) (C.map vN) with
        | false => exact iteF ⟨s1, ks, hks, by omega, hlt⟩
        | true =>
          refine iteT ⟨_, rfl, _, hks, ?_, sameWr s1 hD, ks ++ [i], ?_, ?_, fun k hk => ?_⟩
          · rw [List.length_map]
            exact small1000 (by omega)
          · rw [upd_same, List.map_append, Int.zero_add]
            rfl
          · rw [List.length_append]
            show ks.length + 1 ≤ i + 1
            omega
          · rcases List.mem_append.mp hk with z | z
            · exact hlt k z
            · rw [List.mem_singleton.mp z]
              exact hi
      · exact k ks D H' hlt (hP1.same s1) (k1.trans (keepOf s1)) (k1.free (hP1.nep hD) hD) hks
end
end K8

set_option maxHeartbeats 1000000
/-! What filled tells, and is it what is due. -/
namespace K8
open PySem PySem.Spec PyProof.Rows L2 K8R
/-! ### a call by keywords alone, in a try -/
def tCallSK (sp : Sp) (gV : List V → List V) (E : L2.St → XK) (t : TA) : TE := fun σ H Q => t σ H fun vs H1 => sp (gV vs) H1 Q (E σ)
theorem pe_callSK {X : Cx} {CX : CXT} {k : Nat} {f : Addr} {fd : FuncData} {ps ks : List Str} {sp : Sp} {E : L2.St → XK} {x : Str} {p pos : Pos} {kws : List Keyword} {tk : TA} {g : List Value → List Value → List Value} {gV : List V → List V → List V}
    (F : FnOk X.prog X.w X.K X.mg X.base CX k f fd ps sp) (hr : Room k X.A) (hg : Gl X x) (hm : X.mg x = some (.ref f)) (hk : PySem.W.keepIn X.K (.ref f) = true) (hb : KBinds X.K fd ps ks g gV) (hx : ∀ σ, PassesAt CX X σ (E σ)) (hkw : PK X kws tk)
    (hall : (backToKw pos (keywordEach kws X.env)).all (·.1.isSome) = true := by rfl) (hks : (backToKw pos (keywordEach kws X.env)).filterMap (·.1) = ks := by rfl) (hdb : (x == ("__debug__" : Str)) = false := by decide)
    (hpl : ((backTo pos (starEach [] X.env)).any (·.1) || (backToKw pos (keywordEach kws X.env)).any (·.1.isNone)) = false := by rfl) :
    PE X (.Call (.Name x p) [] kws pos) (tCallSK sp (gV []) E tk) := by
  refine ⟨fun pins s σ H Q I h => ?_⟩
  refine wpAny_Call_Name_kw (ld_glob I hg hm ?_ hdb)
  refine PySem.W.callWith_KW0 (h₀ := X.base) I.ok.mod.kin hk hall ?_ hpl
  refine thn (hkw.run pos pins s σ H _ I h) fun ws s2 ⟨zs, H2, I2, rz, q2⟩ => ⟨I2.kIn, ?_⟩
  rw [hks]
  have r2 := hb.rel .nil rz
  have hl : (g [] ws).length = ps.length := by rw [← r2.length]; exact F.len _ _ _ _ q2
  refine wpAny_call (codeAny_mono (F.run X.A X.stack s2 H2 ⟨[], ks.zip ws⟩ (g [] ws) (gV [] zs) Q (E σ) hr I2.env0 (hb.to s2 [] ws I2.kIn hl) r2 q2) fun r s' hq => ?_)
  cases r with
  | error e => exact hx σ pins H2 s2 e s' I2 hq
  | ok fl =>
    cases fl with
    | ret u => exact I2.after hq
    | next => exact False.elim hq
    | brk => exact False.elim hq
    | cont => exact False.elim hq
def gSw {α : Type} : List α → List α → List α
  | [], [a, b] => [b, a]
  | _, _ => []
section
variable {P : Program} {w : World} {K : PySem.W.Frag} {mg : Str → Option Value} {base : Heap} {C fI cc cda CV : Addr}
theorem gSw_vals : ∀ {vs : List V} {us : List Value} {zs : List V} {ws : List Value}, Vals vs us → Vals zs ws → Vals (gSw vs zs) (gSw us ws)
  | _, _, _, _, .nil, .nil => .nil
  | _, _, _, _, .nil, .cons r .nil => .nil
  | _, _, _, _, .nil, .cons r (.cons r2 .nil) => .cons r2 (.cons r .nil)
  | _, _, _, _, .nil, .cons r (.cons r2 (.cons r3 r4)) => .nil
  | _, _, _, _, .cons r r2, _ => .nil
theorem filled_kb {f : Addr} {fd : FuncData} (F : Fun K "filled" "filled" sFilled f fd) : KBinds K fd ["symbols", "k"] ["k", "symbols"] gSw gSw := by
  refine ⟨fun s us ws _ hl => ?_, gSw_vals⟩
  obtain ⟨oc, od, kV, doc, pm, an, cdv, ct, osl, rfl, lk, hcd⟩ := F.ex
  match us, ws, hl with
  | [], [a, b], _ => exact BindsTo.of_eq rfl
/-- filled, as it may be called both ways -/
structure KnF (P : Program) (w : World) (K : PySem.W.Frag) (mg : Str → Option Value) (base : Heap) (C : Addr) : Prop where
  ex : ∃ (f : Addr) (fd : FuncData), FnOk P w K mg base (L2.CX P w) 6 f fd ["symbols", "k"] (spFilled K C) ∧ mg "filled" = some (.ref f) ∧ PySem.W.keepIn K (.ref f) = true ∧ Binds K fd ["symbols", "k"] [] ∧ KBinds K fd ["symbols", "k"] ["k", "symbols"] gSw gSw
/-- what stands of Beyond and VaultError for the suite -/
structure SuiteTxt (K : PySem.W.Frag) (mg : Str → Option Value) (C CV : Addr) : Prop where
  gV : mg "VaultError" = some (.ref CV)
  is : XisC K C
  fi : XfC K C
  no : PySem.W.findIn K (.ref C) "word" = some none
  kV : PySem.W.kitOne K (.ref C) (.ref CV) = some true
  te : PySem.W.exmOne K (.ref C) (.ref C) = some true
  mi : mg "isinstance" = none
def spTold (K : PySem.W.Frag) : Sp := fun vs H Q _ => ∃ (a : Addr) (ss : List (Option G)) (k : Nat) (b : Bool), vs = [.ref a, .int k, .bl b] ∧ SqA K H a (ss.map vO) ∧ ss.length ≤ 16 ∧
  ((pts ss).length < k → ∀ H' t l, Same H H' → H' t = some (.tup [.str "beyond", .ref l]) → H' l = some (.lst [.bl true, .str "lost"]) → Q (.ref t) H') ∧
  (k ≤ (pts ss).length → ∀ r, Thru r ((pts ss).take k) →
    ((∀ p ∈ pts ss, ev r p.1 = p.2) → ∀ H' t u, Same H H' → H' t = some (.tup [.str "word", .ref u]) → H' u = some (.tup (((List.range ss.length).map fun i => ev r (gN i)).map vG)) → Q (.ref t) H') ∧
    ((¬ ∀ p ∈ pts ss, ev r p.1 = p.2) → ∀ H' t l, Same H H' → H' t = some (.tup [.str "beyond", .ref l]) → H' l = some (.lst [.bl true, .str "parted"]) → Q (.ref t) H'))
def tToldB (K : PySem.W.Frag) (C : Addr) : WX → TS := fun W => tSeq (tIfS (fun σ H Q => tVar 2 σ H fun x H' => ∃ k, TruV K x H' k ∧ Q k H') (tRet (tTup (tCons (tC (.str "word")) (tCons (tCallSK (spFilled K C) (gSw []) (WE W) (tCons (tVar 1) (tCons (tVar 0) tNil))) tNil)))) tNext)
  (tRet (tTup (tCons (tC (.str "word")) (tCons (tCallS (spFilled K C) (WE W) (tCons (tVar 0) (tCons (tVar 1) tNil))) tNil))))
def tToldS (K : PySem.W.Frag) (C CV : Addr) : Addr → Value → Option Addr → TS := fun a cls d => tRet (tTup (tCons (tC (.str "beyond")) (tCons (tLst (tCons (tCB (rIsX K C a cls d) (tCons (tVar 3) (tCons (tC (.ref CV)) tNil))) (tCons (tXf a cls d C "word" (tVar 3)) tNil))) tNil)))
theorem ok_told {f : Addr} {fd : FuncData} (F : Fun K "_law_told" "_law_told" sTold f fd) (T : K8X.BeyTxt P K mg C fI cc cda) (U : SuiteTxt K mg C CV) (NF : KnF P w K mg base C) : FnOk P w K mg base CX0 7 f fd ["_law_symbols_here", "_law_k", "_law_named"] (spTold K) := by
  obtain ⟨ff, ffd, GF, gF, kF, bF, kbF⟩ := NF.ex
  refine F.ok scTold (fun vs H Q E h => ?_) (fun cdv A outer s H vs Q E hr h => ?_)
  · obtain ⟨a, ss, k, b, rfl, _⟩ := h
    rfl
  · obtain ⟨a, ss, k, b, rfl, hS, hlen, kL, kO⟩ := h
    refine ⟨_, pss_one (ps_try_as (i := 3) (tb := tToldB K C) (ts := tToldS K C CV) (Wout := fun _ _ _ _ => False) rfl rfl scTold.nd rfl rfl ⟨rfl, by decide, Or.inl T.gC⟩ takes0
      (fun W pn xe tk _ => pss_cons (ps_if (pt_truth (pv 2) (fun _ => rfl)) (pss_one (ps_ret (pe_tup (pa_cons pe_str (pa_cons (by exact pe_callSK GF hr rfl gF kF kbF (fun σ => passAt tk σ) (pk_cons (pv 1) (pk_cons (pv 0) pk_nil))) pa_nil))))) pss_nil)
        (pss_one (ps_ret (pe_tup (pa_cons pe_str (pa_cons (by exact pe_callS GF hr rfl gF kF bF (fun σ => passAt tk σ) (pa_cons (pv 0) (pa_cons (pv 1) pa_nil))) pa_nil))))))
      (fun a oe cls d pn hz hf => pss_one (ps_ret (pe_tup (pa_cons pe_str (pa_cons (pe_lst (pa_cons (by exact pe_callB (call_isX U.is hz hf) (by rfl) U.mi boot_isinstance (pa_cons (pv 3) (pa_cons (pe_glob (v := .ref CV) rfl U.gV rfl) pa_nil))) (pa_cons (by exact pe_xf U.fi U.no hz hf (pv 3)) pa_nil))) pa_nil)))))), ?_⟩
    have suite : ∀ (z : Str) (H' : Hp) (d e : Addr) (D : Ends) (σ : L2.St), σ[3]? = some (some (.ref e)) → H' d = some (xdW z) → (∀ H2 t l, Same H' H2 → H2 t = some (.tup [.str "beyond", .ref l]) → H2 l = some (.lst [.bl true, .str z]) → D.rt (.ref t) H2) →
        tToldS K C CV e (.ref C) (some d) D σ H' := by
      intro z H' d e D σ hσ hd hk
      refine ⟨_, hσ, .ref CV, .ref CV, true, d, _, rfl, rfl, rfl, hd, fun u r => r, U.kV, ?_⟩
      refine ⟨_, hσ, rfl, rfl, d, _, .str z, rfl, hd, rfl, by show 2 ≤ sizeLine; decide, fun l hl => ?_⟩
      refine ⟨by show 2 ≤ sizeLine; decide, fun t ht => ?_⟩
      have s1 := sameNew (o := .lst [.bl true, .str z]) (Same.refl H') hl
      exact hk _ t l (sameNew s1 ht) upd_same (by rw [upd_ne (ne_of_none upd_same ht)]; exact upd_same)
    refine ⟨_, rfl, b, rfl, ite2 (fun _ => ?_) (fun _ => ?_)⟩
    · refine ⟨_, rfl, _, rfl, a, ss, k, rfl, hS, hlen, fun hk H' d s1 hd => ?_, fun hk r hr0 => ⟨fun ha H' t s1 ht => ?_, fun ha H' d s1 hd => ?_⟩⟩
      · refine ⟨true, U.te, fun _ e he => ?_, fun q => Bool.noConfusion q⟩
        exact suite "lost" H' d e _ _ rfl hd fun H2 t l s2 h1 h2 => kL hk H2 t l (s1.trans s2) h1 h2
      · refine ⟨by show 2 ≤ sizeLine; decide, fun p hp => ?_⟩
        exact ((kO hk r hr0).1 ha) _ p t (sameNew s1 hp) upd_same (by rw [upd_ne (ne_of_none ht hp)]; exact ht)
      · refine ⟨true, U.te, fun _ e he => ?_, fun q => Bool.noConfusion q⟩
        exact suite "parted" H' d e _ _ rfl hd fun H2 t l s2 h1 h2 => (kO hk r hr0).2 ha H2 t l (s1.trans s2) h1 h2
    · refine ⟨_, rfl, _, rfl, a, ss, k, rfl, hS, hlen, fun hk H' d s1 hd => ?_, fun hk r hr0 => ⟨fun ha H' t s1 ht => ?_, fun ha H' d s1 hd => ?_⟩⟩
      · refine ⟨true, U.te, fun _ e he => ?_, fun q => Bool.noConfusion q⟩
        exact suite "lost" H' d e _ _ rfl hd fun H2 t l s2 h1 h2 => kL hk H2 t l (s1.trans s2) h1 h2
      · refine ⟨by show 2 ≤ sizeLine; decide, fun p hp => ?_⟩
        exact ((kO hk r hr0).1 ha) _ p t (sameNew s1 hp) upd_same (by rw [upd_ne (ne_of_none ht hp)]; exact ht)
      · refine ⟨true, U.te, fun _ e he => ?_, fun q => Bool.noConfusion q⟩
        exact suite "parted" H' d e _ _ rfl hd fun H2 t l s2 h1 h2 => (kO hk r hr0).2 ha H2 t l (s1.trans s2) h1 h2
end
end K8

set_option maxHeartbeats 1000000
/-! Is what was told what is due. -/
namespace K8
open PySem PySem.Spec PyProof.Rows L2 K8R
theorem gN_self (g : G) : gN g.n = g := G.ext' (Nat.mod_eq_of_lt g.lt)
/-- the pairs made so far, in the list at D -/
def PtsMade (H' : Hp) (D : Addr) (ps : List (G × G)) : Prop := ∃ bs : List Addr, H' D = some (.lst (bs.map V.ref)) ∧ bs.length = ps.length ∧ ∀ (j : Nat) b p, bs[j]? = some b → ps[j]? = some p → H' b = some (.tup [vG p.1, vG p.2])
theorem PtsMade.at {K : PySem.W.Frag} {H' : Hp} {D : Addr} {ps : List (G × G)} (h : PtsMade H' D ps) : PtsAt K H' D ps := by
  obtain ⟨bs, hB, lB, hb⟩ := h
  exact ⟨bs, .inl (.inl hB), lB, fun i b p e1 e2 => .inl (.inl (hb i b p e1 e2))⟩
theorem PtsMade.add {H2 : Hp} {D t : Addr} {ps : List (G × G)} {bs : List Addr} {p : G × G} (hB : H2 D = some (.lst (bs.map V.ref))) (lB : bs.length = ps.length) (hb : ∀ (j : Nat) b p, bs[j]? = some b → ps[j]? = some p → H2 b = some (.tup [vG p.1, vG p.2])) (ht : H2 t = none) {v : V} (hv : v = vG p.1) :
    PtsMade (upd (upd H2 t (.tup [v, vG p.2])) D (.lst (bs.map V.ref ++ [.ref t]))) D (ps ++ [p]) := by
  have nDt : D ≠ t := ne_of_none hB ht
  subst hv
  refine ⟨bs ++ [t], ?_, ?_, ?_⟩
  · rw [upd_same, List.map_append]
    rfl
  · rw [List.length_append, List.length_append, lB]
    rfl
  · intro j b q e1 e2
    rw [List.getElem?_append] at e1 e2
    rw [← lB] at e2
    split at e1
    · rename_i hlt
      rw [if_pos hlt] at e2
      have z := hb j b q e1 e2
      have z4 : b ≠ t := ne_of_none z ht
      have z5 : b ≠ D := fun e => by
        rw [e, hB] at z
        cases z
      rw [upd_ne z5, upd_ne z4]
      exact z
    · rename_i hge
      rw [if_neg hge] at e2
      have ej : j - bs.length = 0 := by
        have := (List.getElem?_eq_some_iff.mp e1).1
        simp only [List.length_singleton] at this
        omega
      rw [ej] at e1 e2
      have eb : t = b := Option.some.inj e1
      have ep : p = q := Option.some.inj e2
      subst eb
      subst ep
      rw [upd_ne nDt.symm, upd_same]
/-- what filled told stands at t -/
def ToldOk (H : Hp) (t : Addr) (ss : List (Option G)) (k : Nat) : Prop :=
  ((pts ss).length < k ∧ ∃ l, H t = some (.tup [.str "beyond", .ref l]) ∧ H l = some (.lst [.bl true, .str "lost"])) ∨
  (k ≤ (pts ss).length ∧ ∃ r, Thru r ((pts ss).take k) ∧
    (((∀ p ∈ pts ss, ev r p.1 = p.2) ∧ ∃ u, H t = some (.tup [.str "word", .ref u]) ∧ H u = some (.tup (((List.range ss.length).map fun i => ev r (gN i)).map vG))) ∨
    ((¬ ∀ p ∈ pts ss, ev r p.1 = p.2) ∧ ∃ l, H t = some (.tup [.str "beyond", .ref l]) ∧ H l = some (.lst [.bl true, .str "parted"]))))
def spIsTold (K : PySem.W.Frag) : Sp := fun vs H Q _ => ∃ (f a : Addr) (ss : List (Option G)) (k : Nat) (t : Addr), vs = [.ref f, .ref a, .int k, .ref t] ∧ FieldAt H f ∧ H a = some (.lst (ss.map vO)) ∧ ss.length ≤ 16 ∧ ToldOk H t ss k ∧ ∀ H', Same H H' → Q (.bl true) H'
abbrev said (z : Str) : PyData := .tuple [.str "beyond", .list [.bool true, .str z]]
theorem said_lost : SeqAt.shaped (said "lost") = true ∧ PyData.eqv (said "lost") (said "lost") = true := by decide +kernel
theorem said_parted : SeqAt.shaped (said "parted") = true ∧ PyData.eqv (said "parted") (said "parted") = true := by decide +kernel
section
variable {P : Program} {w : World} {K : PySem.W.Frag} {mg : Str → Option Value} {base : Heap}
theorem dp_said {H : Hp} {t l : Addr} {z : Str} (h1 : H t = some (.tup [.str "beyond", .ref l])) (h2 : H l = some (.lst [.bl true, .str z])) : Dp K H (.ref t) (.tuple [.str "beyond", .list [.bool true, .str z]]) :=
  .tup (.inl (.inl h1)) (.cons (.str _) (.cons (.lst (.inl (.inl h2)) (.cons (.bl _) (.cons (.str _) .nil))) .nil))
theorem dp_made {H : Hp} {l t : Addr} {z : Str} (hl : H l = none) (ht : (upd H l (.lst [.bl true, .str z])) t = none) : Dp K (upd (upd H l (.lst [.bl true, .str z])) t (.tup [.str "beyond", .ref l])) (.ref t) (.tuple [.str "beyond", .list [.bool true, .str z]]) :=
  dp_said upd_same (by rw [upd_ne (ne_of_none upd_same ht)]; exact upd_same)
theorem ok_istold {f : Addr} {fd : FuncData} (F : Fun K "_law_is_told" "_law_is_told" sIsTold f fd) (NL : Kn P w K mg base CX0 1 "_law_through" ["_law_field_here", "_law_points", "_law_many"] (spLThru K)) (NI : Kn P w K mg base CX0 1 "_law_is_row" ["_law_actual", "_law_due"] (spIsRow K))
    (mr : mg "range" = none) (ml : mg "len" = none) : FnOk P w K mg base CX0 2 f fd ["_law_field_here", "_law_symbols_here", "_law_k", "_law_told_here"] (spIsTold K) := by
  refine F.ok scIsTold (fun vs H Q E h => ?_) (fun cdv A outer s H vs Q E hr h => ?_)
  · obtain ⟨f, a, ss, k, t, rfl, _⟩ := h
    rfl
  · obtain ⟨f, a, ss, k, t, rfl, hF, hS, hlen, hT, kk⟩ := h
    refine ⟨_, pss_cons (ps_setLc (i := 4) (own := [("_law_x", 6)]) (g := gName 6) rfl scIsTold.nd rfl rfl (sw_true rfl rfl rfl (by decide +kernel))
        (pi_range1 (by rfl) mr (pa_cons (pe_callB call_len_seq (by rfl) ml PySem.boot_len (pa_cons (pv 1) pa_nil)) pa_nil)) (blkOk_by (own := [("_law_x", 6)]) (N := ["_law_field_here", "_law_symbols_here", "_law_k", "_law_told_here", "_law_points", "_law_due", "_law_x", "_law_y"]) (sc := defScope sIsTold) (by decide +kernel))
        (fun _ _ _ _ _ => pg_name (i := 6) scIsTold.nd rfl (.inl rfl))
        (fun _ _ _ _ _ => pts_one (pt_cmpR op_notN (pe_ix (r := rIxL K) ix_list (pv 1) (pv 6) (fun _ _ => rfl)) pe_non (nomark _)))
        (fun _ _ _ _ _ => pe_tup (pa_cons (pv 6) (pa_cons (pe_ix (r := rIxL K) ix_list (pv 1) (pv 6) (fun _ _ => rfl)) pa_nil))))
      (pss_cons (ps_if (pt_cmpR op_ltN (pe_callB call_len_seq (by rfl) ml PySem.boot_len (pa_cons (pv 4) pa_nil)) (pv 2) (nomark _))
          (pss_one (ps_ret (pe_cmpR (op_eqD hr.units) (pv 3) (pe_tup (pa_cons pe_str (pa_cons (pe_lst (pa_cons pe_bl (pa_cons pe_str pa_nil))) pa_nil))) (nomark _)))) pss_nil)
      (pss_cons (ps_set (i := 5) scIsTold.nd rfl (Or.inl rfl) (pe_k0 NL hr (pa_cons (pv 0) (pa_cons (pe_slice sl_list (pv 4) po_none (po_some (pv 2))) (pa_cons (pe_callB call_len_seq (by rfl) ml PySem.boot_len (pa_cons (pv 1) pa_nil)) pa_nil)))))
      (pss_cons (ps_for PassesOwn.never rfl (pi_list (pv 4)) (pg_tup rfl (pgs_cons (pg_name (i := 6) scIsTold.nd rfl (.inl rfl)) (pgs_cons (pg_name (i := 7) scIsTold.nd rfl (.inl rfl)) pgs_nil)))
        (pss_one (ps_if (pt_cmpR op_neN (pe_ix ix_tup (pv 5) (pv 6) (fun _ _ => rfl)) (pv 7) (nomark _))
          (pss_one (ps_ret (pe_cmpR (op_eqD hr.units) (pv 3) (pe_tup (pa_cons pe_str (pa_cons (pe_lst (pa_cons pe_bl (pa_cons pe_str pa_nil))) pa_nil))) (nomark _)))) pss_nil)))
      (pss_one (ps_ret (pe_and (pe_cmpR op_eq (pe_ix ix_tup (pv 3) pe_int (fun _ _ => rfl)) pe_str (nomark _)) (pe_one (pe_k0 NI hr (pa_cons (pe_ix ix_tup (pv 3) pe_int (fun _ _ => rfl)) (pa_cons (pv 5) pa_nil)))))))))), ?_⟩
    -- the comparison with what is said, whichever it is
    refine ⟨_, rfl, a, _, rfl, .inl (.inl (.inl hS)), _, rfl, ?_, ?_, fun D hD => ?_⟩
    · rw [List.length_map]; omega
    · rw [List.length_map]; omega
    rw [Int.toNat_natCast, List.length_map]
    refine lc_range (lo := 0) (n := ss.length) (fun i H' => Same H H' ∧ PtsMade H' D (pts (ss.take i))) ⟨sameNew (Same.refl H) hD, [], upd_same, rfl, fun j b p e => by simp at e⟩ (fun i H' hi ⟨s1, hM⟩ => ?_) (fun H1 ⟨s1, hM⟩ => ?_)
    · have ei : V.int ((0 : Int) + (i : Nat)) = V.int (i : Nat) := by rw [Int.zero_add]
      rw [ei]
      obtain ⟨so, hso⟩ := get_of hi
      have hat : atI (ss.map vO) (i : Nat) = some (vO so) := at_f vO hso
      refine ⟨rfl, _, rfl, _, rfl, a, _, _, vO so, rfl, rfl, .inl (.inl (s1 _ _ hS)), hat, rfl, _, rfl, ?_⟩
      rw [pts_take hso]
      cases so with
      | none =>
        refine iteF ⟨s1, ?_⟩
        rw [show one1 i none = [] from rfl, List.append_nil]
        exact hM
      | some g =>
        have hne : (!decide (vO (some g) = V.non)) = true := by
          rw [decide_eq_false (fun z => nomatch z)]
          rfl
        rw [hne]
        obtain ⟨bs, hB, lB, hb⟩ := hM
        refine iteT ⟨_, rfl, _, rfl, _, rfl, a, _, _, vO (some g), rfl, rfl, .inl (.inl (s1 _ _ hS)), hat, by show 2 ≤ sizeLine; decide, fun t ht => ?_⟩
        refine ⟨bs.map V.ref, by rw [upd_ne (ne_of_none hB ht)]; exact hB, ?_, sameWr (sameNew s1 ht) hD, ?_⟩
        · rw [List.length_map, lB]
          have := pts_len (ss.take i)
          rw [List.length_take] at this
          exact small1000 (by omega)
        · exact PtsMade.add (p := (gN i, g)) hB lB hb ht (vG_gN (by omega)).symm
    · rw [List.take_length] at hM
      have hP := hM.at (K := K)
      obtain ⟨bs, hB, lB, hb⟩ := id hM
      refine ⟨_, rfl, D, _, rfl, .inl (.inl (.inl hB)), _, rfl, _, k, rfl, rfl, _, rfl, ite2N (fun c => ?_) (fun c => ?_)⟩
      · rw [List.length_map, lB] at c
        rcases hT with ⟨_, l, h1, h2⟩ | ⟨c2, _⟩
        · refine ⟨_, rfl, by show 2 ≤ sizeLine; decide, fun l2 hl2 => ⟨by show 2 ≤ sizeLine; decide, fun t2 ht2 => ?_⟩⟩
          have s2 := sameNew (o := .tup [.str "beyond", .ref l2]) (sameNew (o := .lst [.bl true, .str "lost"]) s1 hl2) ht2
          exact ⟨_, _, dp_said (s2 _ _ h1) (s2 _ _ h2), dp_made hl2 ht2, said_lost.1, said_lost.1, by rw [said_lost.2]; exact kk _ s2⟩
        · omega
      · rw [List.length_map, lB] at c
        rcases hT with ⟨c2, _⟩ | ⟨c2, r, hr0, hw⟩
        · omega
        refine ⟨_, rfl, _, rfl, _, rfl, k, rfl, D, _, rfl, .inl (.inl hB), fun q hq => ?_⟩
        rw [cut_to _ _ (by rw [List.length_map, lB]; exact c2), ← List.map_take]
        have s2 := sameNew (o := .lst ((bs.take k).map V.ref)) s1 hq
        have s2b := sameNew (o := .lst ((bs.take k).map V.ref)) (Same.refl H1) hq
        have lpl := pts_len ss
        have hnd : (((pts ss).take k).map (·.1)).Nodup := by
          rw [List.map_take]
          exact (pts_nodup hlen).sublist (List.take_sublist _ _)
        refine ⟨_, rfl, a, _, rfl, .inl (.inl (.inl (s2 _ _ hS))), f, q, (pts ss).take k, ss.length, ?_, hF.same s2, PtsAt.take (.inl (.inl upd_same)) lB (fun i b p e1 e2 => .inl (.inl (s2b _ _ (hb i b p e1 e2)))), hnd, ?_, by omega, fun r' hr' H3 w s3 hw3 => ?_⟩
        · rw [List.length_map]
          rfl
        · rw [List.length_take]
          omega
        have er : (List.range ss.length).map (fun i => ev r' (gN i)) = (List.range ss.length).map (fun i => ev r (gN i)) := List.map_congr_left fun i _ => thru_eq hnd hr' hr0 _
        rw [er] at hw3
        have s03 := s2.trans s3
        have sB := s3 _ _ (s2b _ _ hB)
        refine ⟨_, rfl, D, rfl, ⟨_, .inl (.inl sB)⟩, for_list (K := K) (a := D) (xs := bs.map V.ref) (fun i σ H' => ∃ y6 y7 : Option V, σ = [some (.ref f), some (.ref a), some (.int k), some (.ref t), some (.ref D), some (.ref w), y6, y7] ∧ H' = H3 ∧ ∀ p ∈ (pts ss).take i, ev r p.1 = p.2)
          ⟨_, _, rfl, rfl, fun p hp => by simp at hp⟩ (fun i σ H' _ ⟨_, _, _, e, _⟩ => e ▸ .inl (.inl sB)) ?_ ?_⟩
        · rintro i v σ H4 hi ⟨y6, y7, rfl, rfl, hall⟩
          obtain ⟨d, hd, rfl⟩ := ref_at hi
          have hil : i < (pts ss).length := by
            rw [← lB]
            exact (List.getElem?_eq_some_iff.mp hd).1
          obtain ⟨p, hp⟩ := get_of hil
          have hdS : SqT K H4 d [vG p.1, vG p.2] := .inl (.inl (s3 _ _ (s2b _ _ (hb i d p hd hp))))
          have hpn : p.1.n < ss.length := pts_lt hlen (List.mem_of_getElem? hp)
          have hget : ((List.range ss.length).map fun i => ev r (gN i))[p.1.n]? = some (ev r p.1) := by
            rw [List.getElem?_map, List.getElem?_range hpn]
            show some (ev r (gN p.1.n)) = _
            rw [gN_self]
          refine ⟨d, _, rfl, hdS, rfl, _, _, rfl, _, _, rfl, rfl, ?_⟩
          refine ⟨_, rfl, _, rfl, w, _, _, vG (ev r p.1), rfl, rfl, .inl (.inl hw3), at_map hget, _, rfl, (ev r p.1).n, p.2.n, rfl, rfl, _, rfl, ?_⟩
          by_cases e : (ev r p.1).n = p.2.n
          · rw [decide_eq_true e]
            refine iteF ⟨_, _, rfl, rfl, fun x hx => ?_⟩
            rw [take_snoc hp] at hx
            rcases List.mem_append.mp hx with z | z
            · exact hall x z
            · rw [List.mem_singleton.mp z]
              exact G.ext' e
          · rw [decide_eq_false e]
            refine iteT ?_
            rcases hw with ⟨ha, _⟩ | ⟨_, l, h1, h2⟩
            · exact absurd (congrArg G.n (ha p (List.mem_of_getElem? hp))) e
            · refine ⟨_, rfl, by show 2 ≤ sizeLine; decide, fun l2 hl2 => ⟨by show 2 ≤ sizeLine; decide, fun t2 ht2 => ?_⟩⟩
              have s4 := sameNew (o := .tup [.str "beyond", .ref l2]) (sameNew (o := .lst [.bl true, .str "parted"]) s03 hl2) ht2
              exact ⟨_, _, dp_said (s4 _ _ h1) (s4 _ _ h2), dp_made hl2 ht2, said_parted.1, said_parted.1, by rw [said_parted.2]; exact kk _ s4⟩
        · rintro σ H4 ⟨y6, y7, rfl, rfl, hall⟩
          rw [List.length_map, lB, List.take_length] at hall
          rcases hw with ⟨_, u, h1, h2⟩ | ⟨hno, _⟩
          · have h1' := s03 _ _ h1
            refine ⟨_, rfl, t, _, _, .str "word", rfl, rfl, .inl (.inl h1'), rfl, rfl, true, rfl, iteT ?_⟩
            refine ⟨_, rfl, t, _, _, .ref u, rfl, rfl, .inl (.inl h1'), rfl, _, rfl, u, w, (List.range ss.length).map fun i => ev r (gN i), rfl, s03 _ _ h2, .inl (.inl hw3), ?_, kk _ s03⟩
            rw [List.length_map, List.length_range]
            omega
          · exact absurd hall hno
end
end K8

set_option maxHeartbeats 1000000
/-! The symbols that are drawn. -/
namespace K8
open PySem PySem.Spec PyProof.Rows L2 K8R
theorem gN_nodup_tab : ∀ k : Fin 17, ((List.range k.1).map gN).Nodup := by decide +kernel
theorem gN_nodup {k : Nat} (h : k ≤ 16) : ((List.range k).map gN).Nodup := gN_nodup_tab ⟨k, by omega⟩
theorem PtsMade.keep {H H' : Hp} {D p c : Addr} {ps : List (G × G)} (h : PtsMade H D ps) (hP : PoolAt H p c) (k : Keep p H H') : PtsMade H' D ps := by
  obtain ⟨bs, hB, lB, hb⟩ := h
  obtain ⟨cells, at_, rest, left, small, seed, turn, g1, g2⟩ := hP
  refine ⟨bs, k _ _ hB fun e => ?_, lB, fun j b q e1 e2 => k _ _ (hb j b q e1 e2) fun e => ?_⟩
  · rw [e, g1] at hB
    cases hB
  · have z := hb j b q e1 e2
    rw [e, g1] at z
    cases z
def spSymbols : Sp := fun vs H Q _ => ∃ (p c f : Addr) (k r : Nat), vs = [.ref p, .ref f, .int k, .int r] ∧ PoolAt H p c ∧ FieldAt H f ∧ 1 ≤ k ∧ k + r ≤ 16 ∧ ∀ (l : List G) t H', l.length = k + r → PoolAt H' p c → Keep p H H' → H t = none → H' t = some (.lst (l.map vG)) → Q (.ref t) H'
section
variable {P : Program} {w : World} {K : PySem.W.Frag} {mg : Str → Option Value} {base : Heap}
abbrev nSyms : List Str := ["_law_pool_here", "_law_field_here", "_law_k", "_law_r", "_law_data", "_law_symbols_here", "_law_turn", "_law_at", "_law_x"]
theorem ok_symbols {f : Addr} {fd : FuncData} (F : Fun K "_law_symbols" "_law_symbols" sSymbols f fd) (NT : Kn P w K mg base CX0 2 "_law_take" ["_law_pool_here", "_law_many"] spTake) (NS : Kn P w K mg base CX0 3 "_law_symbol" ["_law_pool_here"] spSymbol)
    (NL : Kn P w K mg base CX0 1 "_law_through" ["_law_field_here", "_law_points", "_law_many"] (spLThru K)) (mr : mg "range" = none) (mL : mg "list" = none) : FnOk P w K mg base CX0 4 f fd ["_law_pool_here", "_law_field_here", "_law_k", "_law_r"] spSymbols := by
  refine F.ok scSymbols (fun vs H Q E h => ?_) (fun cdv A outer s H vs Q E hr h => ?_)
  · obtain ⟨p, c, f, k, r, rfl, _⟩ := h
    rfl
  · obtain ⟨p, c, f, k, r, rfl, hP, hF, k1, kr, kk⟩ := h
    have hr2 : Room 2 _ := hr.mono (by decide)
    have hr1 : Room 1 _ := hr.mono (by decide)
    refine ⟨_, pss_cons (ps_if (pt_cmpR op_eqN (pe_k0 NT hr2 (pa_cons (pv 0) (pa_cons pe_int pa_nil))) pe_int (nomark _))
        (pss_one (ps_ret (pe_lc (own := [("_law_x", 8)]) (g := gName 8) (tt := tYes) rfl scSymbols.nd (pi_range1 (by rfl) mr (pa_cons (pe_op op_addN (pv 2) (pv 3)) pa_nil)) (blkOk_by (own := [("_law_x", 8)]) (N := nSyms) (sc := defScope sSymbols) (by decide +kernel))
          (fun _ _ _ _ _ => pg_name (i := 8) scSymbols.nd rfl (.inl rfl)) (fun _ _ _ _ _ => pts_nil) (fun _ _ _ _ _ => pe_k0 NS hr (pa_cons (pv 0) pa_nil))))) pss_nil)
      (pss_cons (ps_setLc (i := 4) (own := [("_law_x", 8)]) (g := gName 8) (tt := tYes) rfl scSymbols.nd rfl rfl (sw_true rfl rfl rfl (by decide +kernel)) (pi_range1 (by rfl) mr (pa_cons (pv 2) pa_nil)) (blkOk_by (own := [("_law_x", 8)]) (N := nSyms) (sc := defScope sSymbols) (by decide +kernel))
          (fun _ _ _ _ _ => pg_name (i := 8) scSymbols.nd rfl (.inl rfl)) (fun _ _ _ _ _ => pts_nil) (fun _ _ _ _ _ => pe_tup (pa_cons (pv 8) (pa_cons (pe_k0 NS hr (pa_cons (pv 0) pa_nil)) pa_nil))))
      (pss_cons (ps_set (i := 5) scSymbols.nd rfl (Or.inl rfl) (pe_callTy call_list_of (by rfl) mL (by decide +kernel) (pa_cons (pe_k0 NL hr1 (pa_cons (pv 1) (pa_cons (pv 4) (pa_cons (pe_op op_addN (pv 2) (pv 3)) pa_nil)))) pa_nil)))
      (pss_cons (ps_for PassesOwn.never rfl (pi_range1 (by rfl) mr (pa_cons (pe_ix ix_list (pe_lst (pa_cons pe_int (pa_cons pe_int (pa_cons pe_int (pa_cons pe_int (pa_cons pe_int pa_nil)))))) (pe_k0 NT hr2 (pa_cons (pv 0) (pa_cons pe_int pa_nil))) (fun _ _ => rfl)) pa_nil)) (pg_name (i := 6) scSymbols.nd rfl (Or.inl rfl))
        (pss_cons (ps_set (i := 7) scSymbols.nd rfl (Or.inl rfl) (pe_k0 NT hr2 (pa_cons (pv 0) (pa_cons (pe_op op_addN (pv 2) (pv 3)) pa_nil))))
        (pss_one (ps_asg (pe_op op_xorN (pe_ix ix_list (pv 5) (pv 7) (fun _ _ => rfl)) (pe_k0 NT hr2 (pa_cons (pv 0) (pa_cons pe_int pa_nil)))) (pg_sub (pv 5) (pv 7) set_list)))))
      (pss_one (ps_ret (pv 5)))))), ?_⟩
    refine ⟨_, rfl, p, c, 6, rfl, by decide, by decide, hP, fun v H1 hv hP1 ky1 => ⟨v, 0, rfl, rfl, _, rfl, ite2N (fun _ => ?_) (fun _ => ?_)⟩⟩
    · refine ⟨_, rfl, _, rfl, k, r, rfl, rfl, _, rfl, by omega, by omega, fun D hD => ?_⟩
      rw [Int.toNat_natCast]
      have nDp := hP1.nep hD
      have nDc := hP1.nec hD
      have hDH := ky1.free nDp hD
      refine lc_range (lo := 0) (n := k + r) (fun i H' => PoolAt H' p c ∧ Keep p H H' ∧ ∃ l : List G, l.length = i ∧ H' D = some (.lst (l.map vG))) ⟨hP1.new hD, keepNew ky1 hD, [], rfl, upd_same⟩ (fun i H' hi ⟨q1, q2, l, ll, hl⟩ => ?_) (fun H' ⟨q1, q2, l, ll, hl⟩ => ?_)
      · refine ⟨rfl, _, rfl, p, c, rfl, q1, fun g H2 q3 q4 => ?_⟩
        refine ⟨_, q4 _ _ hl nDp, ?_, q3.wr nDp nDc, keepWrN (q2.trans q4) hDH, l ++ [g], ?_, ?_⟩
        · rw [List.length_map]
          exact small1000 (by omega)
        · rw [List.length_append, ll]
          rfl
        · rw [upd_same, List.map_append]
          rfl
      · exact kk l D H' ll q1 q2 hDH hl
    · refine ⟨_, rfl, _, rfl, by omega, by omega, fun D hD => ?_⟩
      rw [Int.toNat_natCast]
      have nDp := hP1.nep hD
      have nDc := hP1.nec hD
      have hDH := ky1.free nDp hD
      refine lc_range (lo := 0) (n := k) (fun i H' => PoolAt H' p c ∧ Keep p H H' ∧ ∃ ps : List (G × G), ps.map (·.1) = (List.range i).map gN ∧ PtsMade H' D ps) ⟨hP1.new hD, keepNew ky1 hD, [], rfl, [], upd_same, rfl, fun j b p e => by simp at e⟩ (fun i H' hi ⟨q1, q2, ps, eps, hM⟩ => ?_) (fun H2 ⟨q1, q2, ps, eps, hM⟩ => ?_)
      · have ei : V.int ((0 : Int) + (i : Nat)) = vG (gN i) := by rw [Int.zero_add, vG_gN (by omega)]
        rw [ei]
        refine ⟨rfl, _, rfl, _, rfl, p, c, rfl, q1, fun g H2 q3 q4 => ⟨by show 2 ≤ sizeLine; decide, fun t ht => ?_⟩⟩
        obtain ⟨bs, hB, lB, hb⟩ := hM.keep q1 q4
        have lps : ps.length = i := by
          have z := congrArg List.length eps
          rw [List.length_map, List.length_map, List.length_range] at z
          exact z
        refine ⟨bs.map V.ref, by rw [upd_ne (ne_of_none hB ht)]; exact hB, ?_, (q3.new ht).wr nDp nDc, keepWrN (keepNew (q2.trans q4) ht) hDH, ps ++ [(gN i, g)], ?_, ?_⟩
        · rw [List.length_map, lB]
          exact small1000 (by omega)
        · rw [List.map_append, eps, List.range_succ, List.map_append]
          rfl
        · exact PtsMade.add (p := (gN i, g)) hB lB hb ht rfl
      · have lps : ps.length = k := by
          have z := congrArg List.length eps
          rw [List.length_map, List.length_map, List.length_range] at z
          exact z
        refine ⟨_, rfl, _, rfl, _, rfl, _, rfl, k, r, rfl, rfl, f, D, ps, k + r, rfl, hF.keep hP q2, hM.at, by rw [eps]; exact gN_nodup (by omega), by omega, by omega, fun rr _ H3 t s3 ht => ?_⟩
        refine ⟨t, _, rfl, .inr (.inl (.inl ht)), fun q hq => ?_⟩
        have q3 := q1.same s3
        have nqp := q3.nep hq
        have nqc := q3.nec hq
        have y3 := q2.trans (keepOf s3)
        have hqH := y3.free nqp hq
        obtain ⟨l0, el0, ll0⟩ : ∃ l0 : List G, ((List.range (k + r)).map fun i => ev rr (gN i)) = l0 ∧ l0.length = k + r := ⟨_, rfl, by rw [List.length_map, List.length_range]⟩
        rw [el0]
        have q4 := q3.new (o := .lst (l0.map vG)) hq
        have y4 := keepNew (o := .lst (l0.map vG)) y3 hq
        refine ⟨by show 5 ≤ sizeLine; decide, fun lz hlz => ?_⟩
        have nzp := q4.nep hlz
        have q5 := q4.new (o := .lst [.int 0, .int 0, .int 1, .int 1, .int 2]) hlz
        have y5 := keepNew (o := .lst [.int 0, .int 0, .int 1, .int 1, .int 2]) y4 hlz
        have nqz : q ≠ lz := ne_of_none upd_same hlz
        refine ⟨_, rfl, p, c, 5, rfl, by decide, by decide, q5, fun j H6 hj q6 y6 => ?_⟩
        have hq6 : H6 q = some (.lst (l0.map vG)) := y6 _ _ (by rw [upd_ne nqz]; exact upd_same) nqp
        have hz6 := y6 _ _ upd_same nzp
        have y06 := y5.trans y6
        obtain ⟨m, hm, m2⟩ : ∃ m : Nat, atI [V.int 0, V.int 0, V.int 1, V.int 1, V.int 2] (j : Nat) = some (.int (m : Nat)) ∧ m ≤ 2 := by
          match j, hj with
          | 0, _ => exact ⟨0, rfl, by decide⟩
          | 1, _ => exact ⟨0, rfl, by decide⟩
          | 2, _ => exact ⟨1, rfl, by decide⟩
          | 3, _ => exact ⟨1, rfl, by decide⟩
          | 4, _ => exact ⟨2, rfl, by decide⟩
        refine ⟨lz, _, _, _, rfl, rfl, .inl (.inl hz6), hm, _, rfl, by omega, by omega, ?_⟩
        rw [Int.toNat_natCast]
        refine for_range (lo := 0) (n := m) (fun i σ H' => ∃ (l : List G) (w6 w7 : Option V), σ = [some (.ref p), some (.ref f), some (.int k), some (.int r), some (.ref D), some (.ref q), w6, w7, none] ∧ PoolAt H' p c ∧ Keep p H H' ∧ H' q = some (.lst (l.map vG)) ∧ l.length = k + r)
          ⟨l0, none, none, rfl, q6, y06, hq6, ll0⟩ ?_ ?_
        · rintro i σ H7 hi ⟨l, w6, w7, rfl, q7, y7, hq7, ll⟩
          refine ⟨_, rfl, _, rfl, _, rfl, k, r, rfl, rfl, p, c, k + r, rfl, by omega, by omega, q7, fun v H8 hv q8 y8 => ?_⟩
          have hv' : v < l.length := by omega
          obtain ⟨g, hg⟩ := get_of hv'
          have hq8 := y8 _ _ hq7 nqp
          refine ⟨_, rfl, _, rfl, q, _, _, vG g, rfl, rfl, .inl (.inl hq8), at_map hg, _, rfl, p, c, 128, rfl, by decide, by decide, q8, fun u H9 hu q9 y9 => ?_⟩
          have hq9 := y9 _ _ hq8 nqp
          rw [← vG_gN hu]
          refine ⟨g.n, (gN u).n, rfl, rfl, ?_⟩
          refine ⟨_, rfl, _, rfl, q, _, _, v, rfl, rfl, hq9, ixN_nat (by rw [List.length_map]; exact hv'), ?_⟩
          refine ⟨l.set v (g + gN u), _, _, rfl, q9.wr nqp nqc, keepWrN ((y7.trans y8).trans y9) hqH, ?_, by rw [List.length_set]; exact ll⟩
          rw [upd_same, List.map_set]
          rfl
        · rintro σ H7 ⟨l, w6, w7, rfl, q7, y7, hq7, ll⟩
          exact ⟨_, rfl, kk l q H7 ll q7 y7 hqH hq7⟩
end
end K8

set_option maxHeartbeats 1000000
/-! One turn of the law, and the law. -/
namespace K8
open PySem PySem.Spec PyProof.Rows L2 K8R
/-! ### the list of symbols as data -/
def dO : Option G → PyData
  | none => .none
  | some g => .int (g.n : Nat)
theorem dp_syms {K : PySem.W.Frag} {H : Hp} : ∀ ss : List (Option G), DpAll K H (ss.map vO) (ss.map dO)
  | [] => .nil
  | none :: r => .cons .non (dp_syms r)
  | some g :: r => .cons (.int _) (dp_syms r)
theorem lay_syms : ∀ ss : List (Option G), PyData.canLayAll0 (ss.map dO) = true
  | [] => by simp [PyData.canLayAll0]
  | none :: r => by simp [dO, PyData.canLayAll0, PyData.canLay0, lay_syms r]
  | some g :: r => by simp [dO, PyData.canLayAll0, PyData.canLay0, lay_syms r]
theorem depth_syms : ∀ ss : List (Option G), PyData.depthAll (ss.map dO) ≤ 1
  | [] => by simp [PyData.depthAll]
  | none :: r => by
    have := depth_syms r
    simp only [List.map_cons, dO, PyData.depthAll, PyData.depth]
    omega
  | some g :: r => by
    have := depth_syms r
    simp only [List.map_cons, dO, PyData.depthAll, PyData.depth]
    omega
theorem shaped_syms (ss : List (Option G)) : SeqAt.shaped (.list (ss.map dO)) = true := by
  have h1 := depth_syms ss
  have h2 : PyData.depth (.list (ss.map dO)) ≤ 64 := by
    simp only [PyData.depth]
    omega
  show (PyData.canLay0 (.list (ss.map dO)) && decide (PyData.depth (.list (ss.map dO)) ≤ 64)) = true
  rw [Bool.and_eq_true]
  exact ⟨by simp only [PyData.canLay0]; exact lay_syms ss, decide_eq_true h2⟩
theorem eqvAll_syms : ∀ ss : List (Option G), PyData.eqvAll (ss.map dO) (ss.map dO) = true
  | [] => by simp [PyData.eqvAll]
  | none :: r => by simp [dO, PyData.eqvAll, PyData.eqv, eqvAll_syms r]
  | some g :: r => by simp [dO, PyData.eqvAll, PyData.eqv, eqvAll_syms r]
theorem eqv_syms (ss : List (Option G)) : PyData.eqv (.list (ss.map dO)) (.list (ss.map dO)) = true := by
  rw [PyData.eqv]
  exact eqvAll_syms ss
def spAgrees : Sp := fun vs H Q _ => ∃ (p c f : Addr), vs = [.ref p, .ref f] ∧ PoolAt H p c ∧ FieldAt H f ∧ ∀ H', PoolAt H' p c → Keep p H H' → Q (.bl true) H'
section
variable {P : Program} {w : World} {K : PySem.W.Frag} {mg : Str → Option Value} {base : Heap}
theorem told_all {H : Hp} {a : Addr} {ss : List (Option G)} {k : Nat} {b : Bool} {Q : VK} {E : XK} (hS : SqA K H a (ss.map vO)) (hl : ss.length ≤ 16) (h : ∀ H' t, Same H H' → ToldOk H' t ss k → Q (.ref t) H') : spTold K [.ref a, .int k, .bl b] H Q E :=
  ⟨a, ss, k, b, rfl, hS, hl, fun c H' t l s h1 h2 => h H' t s (.inl ⟨c, l, h1, h2⟩), fun c r hr => ⟨fun ha H' t u s h1 h2 => h H' t s (.inr ⟨c, r, hr, .inl ⟨ha, u, h1, h2⟩⟩), fun ha H' t l s h1 h2 => h H' t s (.inr ⟨c, r, hr, .inr ⟨ha, l, h1, h2⟩⟩)⟩⟩
theorem ok_agrees {f : Addr} {fd : FuncData} (F : Fun K "_law_agrees" "_law_agrees" sAgrees f fd) (NT : Kn P w K mg base CX0 2 "_law_take" ["_law_pool_here", "_law_many"] spTake) (NSh : Kn P w K mg base CX0 3 "_law_shape" ["_law_pool_here", "_law_most"] spShape)
    (NSy : Kn P w K mg base CX0 4 "_law_symbols" ["_law_pool_here", "_law_field_here", "_law_k", "_law_r"] spSymbols) (NSm : Kn P w K mg base CX0 3 "_law_some" ["_law_pool_here", "_law_many", "_law_from_many"] spSome)
    (NIT : Kn P w K mg base CX0 2 "_law_is_told" ["_law_field_here", "_law_symbols_here", "_law_k", "_law_told_here"] (spIsTold K)) (NTo : Kn P w K mg base CX0 7 "_law_told" ["_law_symbols_here", "_law_k", "_law_named"] (spTold K))
    (mL : mg "list" = none) (mt : mg "tuple" = none) (mm : mg "min" = none) (mi : mg "int" = none) : FnOk P w K mg base CX0 8 f fd ["_law_pool_here", "_law_field_here"] spAgrees := by
  refine F.ok scAgrees (fun vs H Q E h => ?_) (fun cdv A outer s H vs Q E hr h => ?_)
  · obtain ⟨p, c, f, rfl, _⟩ := h
    rfl
  · obtain ⟨p, c, f, rfl, hP, hF, kk⟩ := h
    have hr2 : Room 2 _ := hr.mono (by decide)
    have hr3 : Room 3 _ := hr.mono (by decide)
    have hr4 : Room 4 _ := hr.mono (by decide)
    refine ⟨_, pss_cons (ps_asg (pe_k0 NSh hr3 (pa_cons (pv 0) (pa_cons pe_int pa_nil))) (pg_tup rfl (pgs_cons (pg_name (i := 2) scAgrees.nd rfl (.inl rfl)) (pgs_cons (pg_name (i := 3) scAgrees.nd rfl (.inl rfl)) pgs_nil))))
      (pss_cons (ps_set (i := 4) scAgrees.nd rfl (Or.inl rfl) (pe_k0 NSy hr4 (pa_cons (pv 0) (pa_cons (pv 1) (pa_cons (pv 2) (pa_cons (pv 3) pa_nil))))))
      (pss_cons (ps_set (i := 5) scAgrees.nd rfl (Or.inl rfl) (pe_ix ix_list (pe_lst (pa_cons pe_int (pa_cons (pv 3) (pa_cons (pe_k0 NT hr2 (pa_cons (pv 0) (pa_cons (pe_op op_addN (pv 3) pe_int) pa_nil)))
          (pa_cons (pe_callB (call_min2 rfl) (by rfl) mm boot_min (pa_cons (pe_op op_addN (pe_callTy call_int1 (by rfl) mi boot_int (pa_cons (pv 2) pa_nil)) (pv 3)) (pa_cons (pe_op op_addN (pv 3) pe_int) pa_nil)))
          (pa_cons (pe_k0 NT hr2 (pa_cons (pv 0) (pa_cons (pe_op op_addN (pe_op op_addN (pv 2) (pv 3)) pe_int) pa_nil))) pa_nil)))))) (pe_k0 NT hr2 (pa_cons (pv 0) (pa_cons pe_int pa_nil))) (fun _ _ => rfl)))
      (pss_cons (ps_for PassesOwn.never rfl (pi_list (pe_k0 NSm hr3 (pa_cons (pv 0) (pa_cons (pv 5) (pa_cons (pe_op op_addN (pv 2) (pv 3)) pa_nil))))) (pg_name (i := 6) scAgrees.nd rfl (Or.inl rfl))
        (pss_one (ps_asg pe_non (pg_sub (pv 4) (pv 6) set_list))))
      (pss_cons (ps_set (i := 7) scAgrees.nd rfl (Or.inl rfl) (pe_callTy call_list_of (by rfl) mL (by decide +kernel) (pa_cons (pv 4) pa_nil)))
      (C8.pss_cut (ps_if (pt_cmpR op_eqN (pe_k0 NT hr2 (pa_cons (pv 0) (pa_cons pe_int pa_nil))) pe_int (nomark _))
          (pss_one (ps_set (i := 7) scAgrees.nd rfl (Or.inl rfl) (pe_callTy call_tuple_of (by rfl) mt (by decide +kernel) (pa_cons (pv 4) pa_nil)))) pss_nil)
      (pss_one (ps_ret (pe_and (pe_k0 NIT hr2 (pa_cons (pv 1) (pa_cons (pv 4) (pa_cons (pv 2) (pa_cons (pe_k0 NTo hr (pa_cons (pv 7) (pa_cons (pv 2) (pa_cons (pe_cmpR op_eqN (pe_k0 NT hr2 (pa_cons (pv 0) (pa_cons pe_int pa_nil))) pe_int (nomark _)) pa_nil)))) pa_nil)))))
        (pe_one (pe_cmpR (op_eqD hr.units) (pe_callTy call_list_of (by rfl) mL (by decide +kernel) (pa_cons (pv 7) pa_nil)) (pv 4) (nomark _))))))))))), ?_⟩
    -- the shape
    refine ⟨_, rfl, p, c, rfl, hP, fun k r t1 H1 k1 kr hP1 y1 ht1 => ?_⟩
    refine ⟨t1, _, rfl, .inl (.inl ht1), rfl, _, _, rfl, _, _, rfl, rfl, ?_⟩
    -- the symbols
    refine ⟨_, rfl, _, rfl, _, rfl, _, rfl, p, c, f, k, r, rfl, hP1, hF.keep hP y1, k1, kr, fun l q H2 ll hP2 y2 hq1 hq2 => ?_⟩
    have y12 := y1.trans y2
    have nqp : q ≠ p := fun e => by
      obtain ⟨cells, at_, rest, left, small, seed, turn, g1, g2⟩ := hP1
      rw [e, g1] at hq1
      cases hq1
    have hqH : H q = none := y1.free nqp hq1
    have nqc : q ≠ c := fun e => by
      obtain ⟨cells, at_, rest, left, small, seed, turn, g1, g2⟩ := hP1
      rw [e, g2] at hq1
      cases hq1
    -- how many are lost
    refine ⟨_, rfl, _, rfl, _, rfl, r, 1, rfl, rfl, p, c, r + 1, rfl, by omega, by omega, hP2, fun v1 H3 hv1 hP3 y3 => ?_⟩
    refine ⟨_, rfl, .inl ⟨_, rfl, _, rfl, k, r, rfl, rfl, _, rfl, r, 1, rfl, rfl, _, _, rfl, ?_⟩⟩
    obtain ⟨v0, hv0, hv0'⟩ : ∃ v0 : Nat, (if ((r + 1 : Nat) : Int) < ((k + r : Nat) : Int) then ((r + 1 : Nat) : Int) else ((k + r : Nat) : Int)) = (v0 : Int) ∧ v0 ≤ k + r := by
      by_cases e : ((r + 1 : Nat) : Int) < ((k + r : Nat) : Int)
      · exact ⟨r + 1, if_pos e, by omega⟩
      · exact ⟨k + r, if_neg e, by omega⟩
    rw [hv0]
    refine ⟨_, rfl, _, rfl, _, rfl, k, r, rfl, rfl, k + r, 1, rfl, rfl, p, c, k + r + 1, rfl, by omega, by omega, hP3, fun v2 H4 hv2 hP4 y4 => ?_⟩
    refine ⟨by show 5 ≤ sizeLine; decide, fun lz hlz => ?_⟩
    have nzp := hP4.nep hlz
    refine ⟨_, rfl, p, c, 5, rfl, by decide, by decide, hP4.new hlz, fun j H5 hj hP5 y5 => ?_⟩
    have hz5 := y5 _ _ upd_same nzp
    have y25 := (y3.trans y4).trans ((keepNew (o := .lst [.int 0, .int (r : Nat), .int (v1 : Nat), .int (v0 : Nat), .int (v2 : Nat)]) (Keep.refl p H4) hlz).trans y5)
    have hq5 := y25 _ _ hq2 nqp
    have y05 := y12.trans y25
    obtain ⟨m, hm, mle⟩ : ∃ m : Nat, atI [V.int 0, V.int (r : Nat), V.int (v1 : Nat), V.int (v0 : Nat), V.int (v2 : Nat)] (j : Nat) = some (.int (m : Nat)) ∧ m ≤ k + r := by
      match j, hj with
      | 0, _ => exact ⟨0, rfl, by omega⟩
      | 1, _ => exact ⟨r, rfl, by omega⟩
      | 2, _ => exact ⟨v1, rfl, by omega⟩
      | 3, _ => exact ⟨v0, rfl, hv0'⟩
      | 4, _ => exact ⟨v2, rfl, by omega⟩
    refine ⟨lz, _, _, _, rfl, rfl, .inl (.inl hz5), hm, ?_⟩
    -- they are lost
    refine ⟨_, rfl, _, rfl, _, rfl, _, rfl, k, r, rfl, rfl, p, c, m, k + r, rfl, mle, by omega, hP5, fun ks t6 H6 hks hP6 y6 ht6 ht6' => ?_⟩
    have hq6 := y6 _ _ hq5 nqp
    have y06 := y05.trans y6
    have ntq : q ≠ t6 := ne_of_none hq5 ht6
    have ntp : t6 ≠ p := hP5.nep ht6
    have htH : H t6 = none := y05.free ntp ht6
    refine ⟨t6, rfl, ⟨_, .inl (.inl ht6')⟩, for_list (K := K) (a := t6) (xs := ks.map vN) (fun i σ H' => ∃ (ss : List (Option G)) (w5 w6 : Option V), σ = [some (.ref p), some (.ref f), some (.int k), some (.int r), some (.ref q), w5, w6, none] ∧ PoolAt H' p c ∧ Keep p H H' ∧ H' q = some (.lst (ss.map vO)) ∧ ss.length = k + r ∧ H' t6 = some (.lst (ks.map vN)))
      ⟨l.map some, _, _, rfl, hP6, y06, by rw [hq6, List.map_map]; rfl, by rw [List.length_map]; exact ll, ht6'⟩ (fun i σ H' _ ⟨_, _, _, _, _, _, _, _, z⟩ => .inl (.inl z)) ?_ ?_⟩
    · rintro i v σ H' hi ⟨ss, w5, w6, rfl, q1, q2, q3, q4, q5⟩
      rw [List.getElem?_map] at hi
      obtain ⟨d, hd, rfl⟩ : ∃ d, ks[i]? = some d ∧ v = vN d := by
        cases e : ks[i]? with
        | none => rw [e] at hi; cases hi
        | some d => rw [e] at hi; exact ⟨d, rfl, (Option.some.inj hi).symm⟩
      have hdl : d < ss.length := by
        rw [q4]
        exact hks d (List.mem_of_getElem? hd)
      refine ⟨_, rfl, _, rfl, q, _, _, d, rfl, rfl, q3, ixN_nat (by rw [List.length_map]; exact hdl), ?_⟩
      refine ⟨ss.set d none, _, _, rfl, q1.wr nqp nqc, keepWrN q2 hqH, ?_, by rw [List.length_set]; exact q4, ?_⟩
      · rw [upd_same, List.map_set]
        rfl
      · rw [upd_ne ntq.symm]
        exact q5
    · rintro σ H7 ⟨ss, w5, w6, rfl, hP7, y7, hq7, lss, ht7⟩
      refine ⟨_, rfl, q, _, rfl, .inl (.inl (.inl hq7)), fun h8 hh8 => ?_⟩
      have nqh : q ≠ h8 := ne_of_none hq7 hh8
      have s8 := sameNew (o := .lst (ss.map vO)) (Same.refl H7) hh8
      refine ⟨fun σ H' => ∃ (hd : Addr) (w5 w6 : Option V), σ = [some (.ref p), some (.ref f), some (.int k), some (.int r), some (.ref q), w5, w6, some (.ref hd)] ∧ PoolAt H' p c ∧ Keep p H H' ∧ H' q = some (.lst (ss.map vO)) ∧ (H' hd = some (.lst (ss.map vO)) ∨ H' hd = some (.tup (ss.map vO))), ?_, ?_⟩
      · have hP8 := hP7.same s8
        refine ⟨_, rfl, p, c, 2, rfl, by decide, by decide, hP8, fun v H9 hv hP9 y9 => ?_⟩
        have y09 := (y7.trans (keepOf s8)).trans y9
        have hq9 := y9 _ _ (s8 _ _ hq7) nqp
        refine ⟨v, 0, rfl, rfl, _, rfl, ite2N (fun _ => ?_) (fun _ => ?_)⟩
        · refine ⟨_, rfl, q, _, rfl, .inl ⟨.inl (.inl hq9), fun t ht => ?_⟩⟩
          exact ⟨t, _, _, rfl, hP9.new ht, keepNew y09 ht, by rw [upd_ne (ne_of_none hq9 ht)]; exact hq9, .inr upd_same⟩
        · exact ⟨h8, _, _, rfl, hP9, y09, hq9, .inl (y9 _ _ upd_same (hP7.nep hh8))⟩
      · rintro σ H9 ⟨hd, w5, w6, rfl, hP9, y09, hq9, hhd⟩
        refine ⟨_, rfl, _, rfl, _, rfl, _, rfl, _, rfl, _, rfl, p, c, 4, rfl, by decide, by decide, hP9, fun v H10 hv hP10 y10 => ?_⟩
        have y010 := y09.trans y10
        have hq10 := y10 _ _ hq9 nqp
        have hhd10 : H10 hd = some (.lst (ss.map vO)) ∨ H10 hd = some (.tup (ss.map vO)) := by
          obtain ⟨cells, at_, rest, left, small, seed, turn, g1, g2⟩ := hP9
          rcases hhd with z | z
          · exact .inl (y10 _ _ z fun e => by rw [e, g1] at z; cases z)
          · exact .inr (y10 _ _ z fun e => by rw [e, g1] at z; cases z)
        refine ⟨v, 0, rfl, rfl, ?_⟩
        unfold tNil
        dsimp only
        refine told_all (ss := ss) (hhd10.imp (fun z => .inl (.inl z)) fun z => .inl (.inl z)) (by omega) fun H11 t s11 hT => ?_
        refine ⟨f, q, ss, k, t, rfl, (hF.keep hP y010).same s11, s11 _ _ hq10, by omega, hT, fun H12 s12 => ⟨true, rfl, iteT ?_⟩⟩
        have s1012 := s11.trans s12
        refine ⟨_, rfl, hd, _, rfl, hhd10.imp (fun z => .inl (.inl (s1012 _ _ z))) (fun z => .inl (.inl (s1012 _ _ z))), fun l2 hl2 => ?_⟩
        have s2 := sameNew (o := .lst (ss.map vO)) s1012 hl2
        refine ⟨_, rfl, _, _, .lst (.inl (.inl upd_same)) (dp_syms ss), .lst (.inl (.inl (s2 _ _ hq10))) (dp_syms ss), shaped_syms ss, shaped_syms ss, ?_⟩
        rw [eqv_syms]
        exact kk _ (hP10.same s2) (y010.trans (keepOf s2))
end
end K8

set_option maxHeartbeats 1000000
/-! The law. -/
namespace K8
open PySem PySem.Spec PyProof.Rows L2 K8R
def spLaw (K : PySem.W.Frag) : Sp := fun vs H Q _ => ∃ (a : Addr) (ns : List Int), vs = [.ref a] ∧ SqL K H a (ns.map V.int) ∧ ns.length ≤ 63 ∧ ∀ H', Q (.bl true) H'
section
variable {P : Program} {w : World} {K : PySem.W.Frag} {mg : Str → Option Value} {base : Heap}
theorem ok_law {f : Addr} {fd : FuncData} (F : Fun K "law" "law" sLaw f fd) (NP : Kn P w K mg base CX0 1 "_law_pool" ["_law_script"] (spPool K)) (NF : Kn P w K mg base CX0 1 "_law_field" [] spField) (NA : Kn P w K mg base CX0 8 "_law_agrees" ["_law_pool_here", "_law_field_here"] spAgrees) (mr : mg "range" = none) : FnOk P w K mg base CX0 9 f fd ["_law_script"] (spLaw K) := by
  obtain ⟨ff, ffd, GF, gF, kF, bF⟩ := NF.ex
  refine F.ok scLaw (fun vs H Q E h => ?_) (fun cdv A outer s H vs Q E hr h => ?_)
  · obtain ⟨a, ns, rfl, _⟩ := h
    rfl
  · obtain ⟨a, ns, rfl, hS, hl, k⟩ := h
    have hr1 : Room 1 _ := hr.mono (by decide)
    refine ⟨_, pss_cons (ps_set (i := 1) scLaw.nd rfl (Or.inl rfl) (pe_k0 NP hr1 (pa_cons (pv 0) pa_nil)))
      (pss_cons (ps_set (i := 2) scLaw.nd rfl (Or.inl rfl) (pe_call0 GF hr1 rfl gF kF bF .nil pass0))
      (pss_cons (ps_for PassesOwn.never rfl (pi_range1 (by rfl) mr (pa_cons pe_int pa_nil)) (pg_name (i := 3) scLaw.nd rfl (Or.inl rfl))
        (pss_one (ps_if (pt_not (pt_truth (pe_k0 NA hr (pa_cons (pv 1) (pa_cons (pv 2) pa_nil))) (fun _ => rfl))) (pss_one ps_never) pss_nil)))
      (pss_one (ps_ret pe_bl)))), ?_⟩
    refine ⟨_, rfl, a, ns, rfl, hS, hl, fun H1 p c s1 hP1 => ?_⟩
    refine ⟨rfl, fun H2 f s2 hF => ?_⟩
    refine ⟨_, rfl, by decide, by decide, ?_⟩
    refine for_range (lo := 0) (n := 4) (fun i σ H' => ∃ y : Option V, σ = [some (.ref a), some (.ref p), some (.ref f), y] ∧ PoolAt H' p c ∧ FieldAt H' f) ⟨none, rfl, hP1.same s2, hF⟩ ?_ ?_
    · rintro i σ H3 hi ⟨y, rfl, hP3, hF3⟩
      refine ⟨_, rfl, _, rfl, p, c, f, rfl, hP3, hF3, fun H4 hP4 y4 => ⟨true, rfl, iteF ⟨_, rfl, hP4, hF3.keep hP3 y4⟩⟩⟩
    · rintro σ H3 ⟨y, rfl, hP3, hF3⟩
      exact k _
end
end K8

set_option maxHeartbeats 1000000
/-! The end: what the top has written. -/
namespace K8
open PySem PySem.Spec PyProof.Rows L2 K8R
/-- a def of the top -/
def FunAt (K : PySem.W.Frag) (x : Str) (st : Stmt) : Prop := ∃ (f : Addr) (fd : FuncData), Fun K x x st f fd ∧ PySem.W.nsIn K mainGlobals x = some (some (.ref f))
theorem funAt {K : PySem.W.Frag} {x : Str} {st : Stmt} {f : Addr} {oc : Value} {od an : Option Addr} {osl : Array (Option Value)} {kV doc pm cdv ct : Value} (a : PySem.W.nsIn K mainGlobals x = some (some (.ref f)))
    (l : K.lookup f = some ⟨oc, od, .func (PySem.W.fnOf x x (defArgs st) (defBody st) (defScope st) .none kV doc pm an cdv ct), osl⟩) (c : PySem.W.codeIn K cdv x = true) (k : PySem.W.keepIn K (.ref f) = true) : FunAt K x st := ⟨f, _, fun_mk l c k, a⟩
theorem kit_own {K : PySem.W.Frag} {C V : Addr} (h2 : PySem.W.isClsIn K V = true) (h3 : PySem.W.typeIn K (.ref V) = some (.type "type")) (h4 : PySem.W.subIn K (.ref C) (.ref V) = some true) : PySem.W.kitCls K (.ref C) (.ref V) = some true := by
  have h2' : (PySem.W.clsIn K V).isSome = true := h2
  have e2 : ((PySem.W.clsIn K V).isSome && PySem.W.typeIn K (.ref V) == some (.type "type")) = true := by rw [h2', h3] <;> rfl
  show (if ((PySem.W.clsIn K V).isSome && PySem.W.typeIn K (.ref V) == some (.type "type")) = true then PySem.W.subIn K (.ref C) (.ref V) else none) = some true
  rw [if_pos e2]
  exact h4
theorem kit_one {K : PySem.W.Frag} {C V : Addr} (h2 : PySem.W.isClsIn K V = true) (h3 : PySem.W.typeIn K (.ref V) = some (.type "type")) (h4 : PySem.W.subIn K (.ref C) (.ref V) = some true) : PySem.W.kitOne K (.ref C) (.ref V) = some true := by
  unfold PySem.W.kitOne
  split
  · rfl
  · exact kit_own h2 h3 h4
theorem exm_self {K : PySem.W.Frag} {S : Addr} (h1 : PySem.W.subIn K (.ref S) (.type "BaseException") = some true) (h2 : PySem.W.isClsIn K S = true) (h3 : PySem.W.typeIn K (.ref S) = some (.type "type")) (h4 : PySem.W.subIn K (.ref S) (.ref S) = some true) : PySem.W.exmOne K (.ref S) (.ref S) = some true := by
  have e1 : (PySem.W.subIn K (.ref S) (.type "BaseException") == some true) = true := by rw [h1] <;> rfl
  unfold PySem.W.exmOne
  rw [if_pos e1]
  exact kit_own h2 h3 h4
section
variable {P : Program} {w : World} {K : PySem.W.Frag} {h : Heap} {mg : Str → Option Value} {C fI cc cda CV : Addr}
/-- what stands of Beyond -/
theorem bey_mk {oc ct ccl cl : Value} {od an cdd cld : Option Addr} {doc pm : Value} {osl ccs csl : Array (Option Value)} {vs : Array Value} {file : Str} {tf : Tok} (X : K.In h) (G : h.Ns mainGlobals mg) (gC : PySem.W.nsIn K mainGlobals "Beyond" = some (some (.ref C)))
    (ini : PySem.W.findIn K (.ref C) "__init__" = some (some (.ref fI)))
    (fn : K.lookup fI = some ⟨oc, od, .func (PySem.W.ksFn "__init__" "Beyond.__init__" (L2.defArgs K8.sBeyI) (L2.defBody K8.sBeyI) (L2.defScope K8.sBeyI) .none .none doc pm an (.ref cda) ct cc), osl⟩)
    (cd : PySem.W.codeIn K (.ref cda) "Beyond.__init__" = true) (cod : K.lookup cda = some ⟨ccl, cdd, .fields vs, ccs⟩) (cv : vs[2]? = some (.str file tf)) (cf : ((P.main.file : Str) == file) = true) (cell : K.lookup cc = some ⟨cl, cld, .cell (some (.ref C)), csl⟩)
    (q : PySem.W.excInitIn K C K8X.bmEx "Exception.__new__" = true) (ov : PySem.W.excOver K C K8X.bmEx = true) (tk : PySem.W.takerIn K C "word" = some none) (hh : PySem.W.hasDictIn K C = true)
    (sa : PySem.W.findIn K (.ref C) "__setattr__" = some (some (.builtin "object.__setattr__"))) (tI : PySem.W.typeIn K (.ref fI) = some (.type "function")) (kC : PySem.W.keepIn K (.ref C) = true)
    (exB : PySem.W.subIn K (.ref C) (.type "BaseException") = some true) (exE : PySem.W.subIn K (.ref C) (.type "Exception") = some true) (tyC : PySem.W.typeIn K (.ref C) = some (.type "type"))
    (al : PySem.W.ks_superIn K C C "__init__" = some (some (.builtin "Exception.__init__"))) (opq : PySem.W.nsIn K cStatics "thirdparty.any" = some none) (mro : PySem.W.mroIn K C (.ref C) = some true)
    (sup : PySem.W.nsIn K mainGlobals "super" = some none) (htop : (P.main.scope.names.lookup ("super" : Str)).isSome = false) : K8X.BeyTxt P K mg C fI cc cda :=
  ⟨PySem.W.mg_of X G gC, q, ov, tk, hh, sa, ini, tI, kC, exB, exE, tyC, al, opq, mro, ⟨oc, od, doc, pm, an, ct, osl, fn⟩, cd, ⟨ccl, cdd, vs, ccs, file, tf, cod, cv, cf⟩, ⟨cl, cld, csl, cell⟩, PySem.W.mg_none_of X G sup, htop⟩
/-- all defs keep their promises -/
theorem all_mk {fa : Addr} {tm : Tok} (X : K.In h) (G : h.Ns mainGlobals mg) (hfa : mg "law" = some (.ref fa)) (T : K8X.BeyTxt P K mg C fI cc cda) (U : SuiteTxt K mg C CV) (aM : PySem.W.nsIn K mainGlobals "MODULUS" = some (some (.int 131 tm)))
    (h_added : FunAt K "added" sAdded)
    (h_times : FunAt K "times" sTimes)
    (h_power : FunAt K "power" sPower)
    (h_inverse : FunAt K "inverse" sInverse)
    (h_over : FunAt K "over" sOver)
    (h_trimmed : FunAt K "trimmed" sTrimmed)
    (h_coefficient_at : FunAt K "coefficient_at" sCoef)
    (h_poly_added : FunAt K "poly_added" sPAdd)
    (h_poly_times : FunAt K "poly_times" sPTimes)
    (h_poly_value : FunAt K "poly_value" sPValue)
    (h_poly_through : FunAt K "poly_through" sPThru)
    (h_word_of : FunAt K "word_of" sWord)
    (h_given_points : FunAt K "given_points" sGiven)
    (h_unlike_places : FunAt K "unlike_places" sUnlike)
    (h_filled : FunAt K "filled" sFilled)
    (h__law_mixed : FunAt K "_law_mixed" sMixed)
    (h__law_pool : FunAt K "_law_pool" sPool)
    (h__law_take : FunAt K "_law_take" sTake)
    (h__law_field : FunAt K "_law_field" sField)
    (h__law_through : FunAt K "_law_through" sThru)
    (h__law_symbol : FunAt K "_law_symbol" sSymbol)
    (h__law_shape : FunAt K "_law_shape" sShape)
    (h__law_is_row : FunAt K "_law_is_row" sIsRow)
    (h__law_some : FunAt K "_law_some" sSome)
    (h__law_told : FunAt K "_law_told" sTold)
    (h__law_is_told : FunAt K "_law_is_told" sIsTold)
    (h__law_symbols : FunAt K "_law_symbols" sSymbols)
    (h__law_agrees : FunAt K "_law_agrees" sAgrees)
    (h_law : FunAt K "law" sLaw)
    (z_int : PySem.W.nsIn K mainGlobals "int" = some none)
    (z_len : PySem.W.nsIn K mainGlobals "len" = some none)
    (z_list : PySem.W.nsIn K mainGlobals "list" = some none)
    (z_range : PySem.W.nsIn K mainGlobals "range" = some none)
    (z_sum : PySem.W.nsIn K mainGlobals "sum" = some none)
    (z_tuple : PySem.W.nsIn K mainGlobals "tuple" = some none)
    (z_min : PySem.W.nsIn K mainGlobals "min" = some none)
    (z_max : PySem.W.nsIn K mainGlobals "max" = some none)
    (z_enumerate : PySem.W.nsIn K mainGlobals "enumerate" = some none)
    (z_isinstance : PySem.W.nsIn K mainGlobals "isinstance" = some none)
    (z_bool : PySem.W.nsIn K mainGlobals "bool" = some none)
    (z_super : PySem.W.nsIn K mainGlobals "super" = some none)
    : ∃ fd : FuncData, (∀ (s : Shared) (v : Value), BindsTo s fd ⟨[v], []⟩ [("_law_script", v)]) ∧ ∀ base : Heap, K.In base → base.Ns mainGlobals mg → FnOk P w K mg base CX0 9 fa fd ["_law_script"] (spLaw K) := by
  obtain ⟨fl, fdl, FL, al⟩ := h_law
  have e := hfa.symm.trans (PySem.W.mg_of X G al)
  cases e
  refine ⟨fdl, fun s v => ?_, fun base _ _ => ?_⟩
  · obtain ⟨oc, od, kV, doc, pm, an, cdv, ct, osl, rfl, lk, hcd⟩ := FL.ex
    exact .of_eq rfl
  have mM : ∃ t, mg "MODULUS" = some (.int 131 t) := ⟨tm, PySem.W.mg_of X G aM⟩
  have m_int : mg "int" = none := PySem.W.mg_none_of X G z_int
  have m_len : mg "len" = none := PySem.W.mg_none_of X G z_len
  have m_list : mg "list" = none := PySem.W.mg_none_of X G z_list
  have m_range : mg "range" = none := PySem.W.mg_none_of X G z_range
  have m_sum : mg "sum" = none := PySem.W.mg_none_of X G z_sum
  have m_tuple : mg "tuple" = none := PySem.W.mg_none_of X G z_tuple
  have m_min : mg "min" = none := PySem.W.mg_none_of X G z_min
  have m_max : mg "max" = none := PySem.W.mg_none_of X G z_max
  have m_enumerate : mg "enumerate" = none := PySem.W.mg_none_of X G z_enumerate
  have m_isinstance : mg "isinstance" = none := PySem.W.mg_none_of X G z_isinstance
  have m_bool : mg "bool" = none := PySem.W.mg_none_of X G z_bool
  have m_super : mg "super" = none := PySem.W.mg_none_of X G z_super
  obtain ⟨f_added, fd_added, F, a⟩ := h_added
  have N_added : Kn P w K mg base CX0 1 "added" ["a", "b"] spAdded := Kn.of F (ok_added F) (PySem.W.mg_of X G a) (F.binds fun _ _ _ _ _ _ us hl => match us, hl with | [_, _], _ => rfl)
  clear F a
  obtain ⟨f_times, fd_times, F, a⟩ := h_times
  have N_times : Kn P w K mg base CX0 1 "times" ["a", "b"] spTimes := Kn.of F (ok_times F mM) (PySem.W.mg_of X G a) (F.binds fun _ _ _ _ _ _ us hl => match us, hl with | [_, _], _ => rfl)
  clear F a
  obtain ⟨f_power, fd_power, F, a⟩ := h_power
  have N_power : Kn P w K mg base CX0 2 "power" ["a", "n"] spPower := Kn.of F (ok_power F N_times) (PySem.W.mg_of X G a) (F.binds fun _ _ _ _ _ _ us hl => match us, hl with | [_, _], _ => rfl)
  clear F a
  obtain ⟨f_inverse, fd_inverse, F, a⟩ := h_inverse
  have N_inverse : Kn P w K mg base CX0 3 "inverse" ["a"] spInverse := Kn.of F (ok_inverse F N_power) (PySem.W.mg_of X G a) (F.binds fun _ _ _ _ _ _ us hl => match us, hl with | [_], _ => rfl)
  clear F a
  obtain ⟨f_over, fd_over, F, a⟩ := h_over
  have N_over : Kn P w K mg base CX0 4 "over" ["a", "b"] spOver := Kn.of F (ok_over F N_times N_inverse) (PySem.W.mg_of X G a) (F.binds fun _ _ _ _ _ _ us hl => match us, hl with | [_, _], _ => rfl)
  clear F a
  obtain ⟨f_trimmed, fd_trimmed, F, a⟩ := h_trimmed
  have N_trimmed : Kn P w K mg base CX0 1 "trimmed" ["row"] (spTrimmed K) := Kn.of F (ok_trimmed F m_len m_tuple) (PySem.W.mg_of X G a) (F.binds fun _ _ _ _ _ _ us hl => match us, hl with | [_], _ => rfl)
  clear F a
  obtain ⟨f_coefficient_at, fd_coefficient_at, F, a⟩ := h_coefficient_at
  have N_coefficient_at : Kn P w K mg base CX0 1 "coefficient_at" ["p", "k"] (spCoef K) := Kn.of F (ok_coef F m_len) (PySem.W.mg_of X G a) (F.binds fun _ _ _ _ _ _ us hl => match us, hl with | [_, _], _ => rfl)
  clear F a
  obtain ⟨f_poly_added, fd_poly_added, F, a⟩ := h_poly_added
  have N_poly_added : Kn P w K mg base CX0 2 "poly_added" ["p", "q"] (spPAdd K) := Kn.of F (ok_padd F N_added N_coefficient_at N_trimmed m_len m_range m_max) (PySem.W.mg_of X G a) (F.binds fun _ _ _ _ _ _ us hl => match us, hl with | [_, _], _ => rfl)
  clear F a
  obtain ⟨f_poly_times, fd_poly_times, F, a⟩ := h_poly_times
  have N_poly_times : Kn P w K mg base CX0 2 "poly_times" ["p", "q"] (spPTimes K) := Kn.of F (ok_ptimes F N_added N_times N_trimmed m_len m_enumerate) (PySem.W.mg_of X G a) (F.binds fun _ _ _ _ _ _ us hl => match us, hl with | [_, _], _ => rfl)
  clear F a
  obtain ⟨f_poly_value, fd_poly_value, F, a⟩ := h_poly_value
  have N_poly_value : Kn P w K mg base CX0 2 "poly_value" ["p", "x"] (spPValue K) := Kn.of F (ok_pvalue F N_added N_times) (PySem.W.mg_of X G a) (F.binds fun _ _ _ _ _ _ us hl => match us, hl with | [_, _], _ => rfl)
  clear F a
  obtain ⟨f_poly_through, fd_poly_through, F, a⟩ := h_poly_through
  have N_poly_through : Kn P w K mg base CX0 5 "poly_through" ["points"] (spPThru K) := Kn.of F (ok_pthru F N_added N_poly_value N_over N_poly_added N_poly_times) (PySem.W.mg_of X G a) (F.binds fun _ _ _ _ _ _ us hl => match us, hl with | [_], _ => rfl)
  clear F a
  obtain ⟨f_word_of, fd_word_of, F, a⟩ := h_word_of
  have N_word_of : Kn P w K mg base CX0 3 "word_of" ["p", "size"] (spWord K) := Kn.of F (ok_word F N_poly_value m_tuple m_range) (PySem.W.mg_of X G a) (F.binds fun _ _ _ _ _ _ us hl => match us, hl with | [_, _], _ => rfl)
  clear F a
  obtain ⟨f_given_points, fd_given_points, F, a⟩ := h_given_points
  have N_given_points : Kn P w K mg base (L2.CX P w) 2 "given_points" ["symbols", "k"] (spGiven K C) := Kn.of F (ok_given F T m_len m_enumerate) (PySem.W.mg_of X G a) (F.binds fun _ _ _ _ _ _ us hl => match us, hl with | [_, _], _ => rfl)
  clear F a
  obtain ⟨f_unlike_places, fd_unlike_places, F, a⟩ := h_unlike_places
  have N_unlike_places : Kn P w K mg base CX0 1 "unlike_places" ["word", "points"] (spUnlike K) := Kn.of F (ok_unlike F) (PySem.W.mg_of X G a) (F.binds fun _ _ _ _ _ _ us hl => match us, hl with | [_, _], _ => rfl)
  clear F a
  obtain ⟨f_filled, fd_filled, F, a⟩ := h_filled
  have N_filled : KnF P w K mg base C := ⟨f_filled, fd_filled, ok_filled F T N_given_points N_word_of N_poly_through N_unlike_places m_len, PySem.W.mg_of X G a, F.kp, F.binds fun _ _ _ _ _ _ us hl => match us, hl with | [_, _], _ => rfl, filled_kb F⟩
  clear F a
  obtain ⟨f__law_mixed, fd__law_mixed, F, a⟩ := h__law_mixed
  have N__law_mixed : Kn P w K mg base CX0 1 "_law_mixed" ["_law_number", "_law_turn", "_law_many"] spMixed := Kn.of F (ok_mixed F m_int) (PySem.W.mg_of X G a) (F.binds fun _ _ _ _ _ _ us hl => match us, hl with | [_, _, _], _ => rfl)
  clear F a
  obtain ⟨f__law_pool, fd__law_pool, F, a⟩ := h__law_pool
  have N__law_pool : Kn P w K mg base CX0 1 "_law_pool" ["_law_script"] (spPool K) := Kn.of F (ok_pool F m_int m_len m_list) (PySem.W.mg_of X G a) (F.binds fun _ _ _ _ _ _ us hl => match us, hl with | [_], _ => rfl)
  clear F a
  obtain ⟨f__law_take, fd__law_take, F, a⟩ := h__law_take
  have N__law_take : Kn P w K mg base CX0 2 "_law_take" ["_law_pool_here", "_law_many"] spTake := Kn.of F (ok_take F N__law_mixed m_int m_len) (PySem.W.mg_of X G a) (F.binds fun _ _ _ _ _ _ us hl => match us, hl with | [_, _], _ => rfl)
  clear F a
  obtain ⟨f__law_field, fd__law_field, F, a⟩ := h__law_field
  have N__law_field : Kn P w K mg base CX0 1 "_law_field" [] spField := Kn.of F (ok_field F m_range) (PySem.W.mg_of X G a) (F.binds fun _ _ _ _ _ _ us hl => match us, hl with | [], _ => rfl)
  clear F a
  obtain ⟨f__law_through, fd__law_through, F, a⟩ := h__law_through
  have N__law_through : Kn P w K mg base CX0 1 "_law_through" ["_law_field_here", "_law_points", "_law_many"] (spLThru K) := Kn.of F (ok_lthru F m_range m_len m_sum m_int m_tuple) (PySem.W.mg_of X G a) (F.binds fun _ _ _ _ _ _ us hl => match us, hl with | [_, _, _], _ => rfl)
  clear F a
  obtain ⟨f__law_symbol, fd__law_symbol, F, a⟩ := h__law_symbol
  have N__law_symbol : Kn P w K mg base CX0 3 "_law_symbol" ["_law_pool_here"] spSymbol := Kn.of F (ok_symbol F N__law_take) (PySem.W.mg_of X G a) (F.binds fun _ _ _ _ _ _ us hl => match us, hl with | [_], _ => rfl)
  clear F a
  obtain ⟨f__law_shape, fd__law_shape, F, a⟩ := h__law_shape
  have N__law_shape : Kn P w K mg base CX0 3 "_law_shape" ["_law_pool_here", "_law_most"] spShape := Kn.of F (ok_shape F N__law_take m_min) (PySem.W.mg_of X G a) (F.binds fun _ _ _ _ _ _ us hl => match us, hl with | [_, _], _ => rfl)
  clear F a
  obtain ⟨f__law_is_row, fd__law_is_row, F, a⟩ := h__law_is_row
  have N__law_is_row : Kn P w K mg base CX0 1 "_law_is_row" ["_law_actual", "_law_due"] (spIsRow K) := Kn.of F (ok_isrow F m_len m_range m_isinstance m_int m_bool m_tuple) (PySem.W.mg_of X G a) (F.binds fun _ _ _ _ _ _ us hl => match us, hl with | [_, _], _ => rfl)
  clear F a
  obtain ⟨f__law_some, fd__law_some, F, a⟩ := h__law_some
  have N__law_some : Kn P w K mg base CX0 3 "_law_some" ["_law_pool_here", "_law_many", "_law_from_many"] spSome := Kn.of F (ok_some F N__law_take m_len m_range m_list) (PySem.W.mg_of X G a) (F.binds fun _ _ _ _ _ _ us hl => match us, hl with | [_, _, _], _ => rfl)
  clear F a
  obtain ⟨f__law_told, fd__law_told, F, a⟩ := h__law_told
  have N__law_told : Kn P w K mg base CX0 7 "_law_told" ["_law_symbols_here", "_law_k", "_law_named"] (spTold K) := Kn.of F (ok_told F T U N_filled) (PySem.W.mg_of X G a) (F.binds fun _ _ _ _ _ _ us hl => match us, hl with | [_, _, _], _ => rfl)
  clear F a
  obtain ⟨f__law_is_told, fd__law_is_told, F, a⟩ := h__law_is_told
  have N__law_is_told : Kn P w K mg base CX0 2 "_law_is_told" ["_law_field_here", "_law_symbols_here", "_law_k", "_law_told_here"] (spIsTold K) := Kn.of F (ok_istold F N__law_through N__law_is_row m_range m_len) (PySem.W.mg_of X G a) (F.binds fun _ _ _ _ _ _ us hl => match us, hl with | [_, _, _, _], _ => rfl)
  clear F a
  obtain ⟨f__law_symbols, fd__law_symbols, F, a⟩ := h__law_symbols
  have N__law_symbols : Kn P w K mg base CX0 4 "_law_symbols" ["_law_pool_here", "_law_field_here", "_law_k", "_law_r"] spSymbols := Kn.of F (ok_symbols F N__law_take N__law_symbol N__law_through m_range m_list) (PySem.W.mg_of X G a) (F.binds fun _ _ _ _ _ _ us hl => match us, hl with | [_, _, _, _], _ => rfl)
  clear F a
  obtain ⟨f__law_agrees, fd__law_agrees, F, a⟩ := h__law_agrees
  have N__law_agrees : Kn P w K mg base CX0 8 "_law_agrees" ["_law_pool_here", "_law_field_here"] spAgrees := Kn.of F (ok_agrees F N__law_take N__law_shape N__law_symbols N__law_some N__law_is_told N__law_told m_list m_tuple m_min m_int) (PySem.W.mg_of X G a) (F.binds fun _ _ _ _ _ _ us hl => match us, hl with | [_, _], _ => rfl)
  clear F a
  exact ok_law FL N__law_pool N__law_field N__law_agrees m_range
end
end K8

open PySem PySem.W PyProof.Rows
set_option maxHeartbeats 0 in
theorem PySem.Challenge.cw_mendvault_k08_whole_filled_rows_holds : PySem.Challenge.rw_mendvault_k08_whole_filled_rows.Holds := by
  w_on; o_law; k_head; (case hw => w_witness2)
  k_fill
  refine L2.walk_of (l := PySem.Challenge.rw_mendvault_k08_whole_filled_rows) (n := 63) (k := 9) (x := "_law_script") (CX := fun _ => L2.CX0) (sp := fun w => K8.spLaw _) rfl (by decide) rfl ⟨rfl, by decide, by decide⟩ (fun w h Y => PySem.W.kIn_of Y) ?F (fun _ _ a ns hl _ hS => ⟨a, ns, rfl, hS, hl, fun _ => rfl⟩) (fun _ _ _ _ _ h => h)
  case F =>
    intro w mg fa h KX G hmg
    refine' K8.all_mk KX G hmg ?T ?U ?aM ?h_added ?h_times ?h_power ?h_inverse ?h_over ?h_trimmed ?h_coefficient_at ?h_poly_added ?h_poly_times ?h_poly_value ?h_poly_through ?h_word_of ?h_given_points ?h_unlike_places ?h_filled ?h__law_mixed ?h__law_pool ?h__law_take ?h__law_field ?h__law_through ?h__law_symbol ?h__law_shape ?h__law_is_row ?h__law_some ?h__law_told ?h__law_is_told ?h__law_symbols ?h__law_agrees ?h_law ?z_int ?z_len ?z_list ?z_range ?z_sum ?z_tuple ?z_min ?z_max ?z_enumerate ?z_isinstance ?z_bool ?z_super
    case T =>
      refine' K8.bey_mk KX G ?gC ?ini ?fn ?cd ?cod ?cv ?cf ?cell ?qq ?ov ?tk ?hh ?sa ?tI ?kC ?exB ?exE ?tyC ?al ?opq ?mro ?sup ?htop
      (case gC => k_is); (case ini => k_is); (case fn => k_is); (case cd => k_is); (case cod => k_is); (case cv => rfl); (case cf => decide +kernel); (case cell => k_is)
      (case qq => kx_is); (case ov => kx_is); (case tk => k_is); (case hh => k_is); (case sa => k_is); (case tI => k_is); (case kC => k_is); (case exB => k_is); (case exE => k_is); (case tyC => k_is)
      (case al => ks_is); (case opq => k_is); (case mro => k_is); (case sup => k_is); (case htop => decide +kernel)
    case U =>
      refine' ⟨PySem.W.mg_of KX G ?gV, ⟨?i1, ?i2, ?i3, ?i4, ?i5, ?i6, ?i7, ?i8⟩, ⟨?j1, ?j2, ?j3, ?j4⟩, ?no, K8.kit_one ?v1 ?v2 ?v3, K8.exm_self ?e1 ?e2 ?e3 ?e4, PySem.W.mg_none_of KX G ?mi⟩
      (case gV => k_is)
      (case i1 => (show PySem.W.isClsIn _ _ = true; k_is)); (case i2 => k_is); (case i3 => k_is); (case i4 => k_is); (case i5 => k_is); (case i6 => k_is); (case i7 => k_is); (case i8 => k_is)
      (case j1 => k_is); (case j2 => k_is); (case j3 => k_is); (case j4 => k_is); (case no => k_is); (case v1 => k_is); (case v2 => k_is); (case v3 => k_is); (case e1 => k_is); (case e2 => k_is); (case e3 => k_is); (case e4 => k_is); (case mi => k_is)
    case aM => k_is
    case h_added => (refine' K8.funAt ?fa1 ?fl1 ?fc1 ?fk1; (case fa1 => k_is); (case fl1 => k_is); (case fc1 => k_is); (case fk1 => k_is))
    case h_times => (refine' K8.funAt ?fa1 ?fl1 ?fc1 ?fk1; (case fa1 => k_is); (case fl1 => k_is); (case fc1 => k_is); (case fk1 => k_is))
    case h_power => (refine' K8.funAt ?fa1 ?fl1 ?fc1 ?fk1; (case fa1 => k_is); (case fl1 => k_is); (case fc1 => k_is); (case fk1 => k_is))
    case h_inverse => (refine' K8.funAt ?fa1 ?fl1 ?fc1 ?fk1; (case fa1 => k_is); (case fl1 => k_is); (case fc1 => k_is); (case fk1 => k_is))
    case h_over => (refine' K8.funAt ?fa1 ?fl1 ?fc1 ?fk1; (case fa1 => k_is); (case fl1 => k_is); (case fc1 => k_is); (case fk1 => k_is))
    case h_trimmed => (refine' K8.funAt ?fa1 ?fl1 ?fc1 ?fk1; (case fa1 => k_is); (case fl1 => k_is); (case fc1 => k_is); (case fk1 => k_is))
    case h_coefficient_at => (refine' K8.funAt ?fa1 ?fl1 ?fc1 ?fk1; (case fa1 => k_is); (case fl1 => k_is); (case fc1 => k_is); (case fk1 => k_is))
    case h_poly_added => (refine' K8.funAt ?fa1 ?fl1 ?fc1 ?fk1; (case fa1 => k_is); (case fl1 => k_is); (case fc1 => k_is); (case fk1 => k_is))
    case h_poly_times => (refine' K8.funAt ?fa1 ?fl1 ?fc1 ?fk1; (case fa1 => k_is); (case fl1 => k_is); (case fc1 => k_is); (case fk1 => k_is))
    case h_poly_value => (refine' K8.funAt ?fa1 ?fl1 ?fc1 ?fk1; (case fa1 => k_is); (case fl1 => k_is); (case fc1 => k_is); (case fk1 => k_is))
    case h_poly_through => (refine' K8.funAt ?fa1 ?fl1 ?fc1 ?fk1; (case fa1 => k_is); (case fl1 => k_is); (case fc1 => k_is); (case fk1 => k_is))
    case h_word_of => (refine' K8.funAt ?fa1 ?fl1 ?fc1 ?fk1; (case fa1 => k_is); (case fl1 => k_is); (case fc1 => k_is); (case fk1 => k_is))
    case h_given_points => (refine' K8.funAt ?fa1 ?fl1 ?fc1 ?fk1; (case fa1 => k_is); (case fl1 => k_is); (case fc1 => k_is); (case fk1 => k_is))
    case h_unlike_places => (refine' K8.funAt ?fa1 ?fl1 ?fc1 ?fk1; (case fa1 => k_is); (case fl1 => k_is); (case fc1 => k_is); (case fk1 => k_is))
    case h_filled => (refine' K8.funAt ?fa1 ?fl1 ?fc1 ?fk1; (case fa1 => k_is); (case fl1 => k_is); (case fc1 => k_is); (case fk1 => k_is))
    case h__law_mixed => (refine' K8.funAt ?fa1 ?fl1 ?fc1 ?fk1; (case fa1 => k_is); (case fl1 => k_is); (case fc1 => k_is); (case fk1 => k_is))
    case h__law_pool => (refine' K8.funAt ?fa1 ?fl1 ?fc1 ?fk1; (case fa1 => k_is); (case fl1 => k_is); (case fc1 => k_is); (case fk1 => k_is))
    case h__law_take => (refine' K8.funAt ?fa1 ?fl1 ?fc1 ?fk1; (case fa1 => k_is); (case fl1 => k_is); (case fc1 => k_is); (case fk1 => k_is))
    case h__law_field => (refine' K8.funAt ?fa1 ?fl1 ?fc1 ?fk1; (case fa1 => k_is); (case fl1 => k_is); (case fc1 => k_is); (case fk1 => k_is))
    case h__law_through => (refine' K8.funAt ?fa1 ?fl1 ?fc1 ?fk1; (case fa1 => k_is); (case fl1 => k_is); (case fc1 => k_is); (case fk1 => k_is))
    case h__law_symbol => (refine' K8.funAt ?fa1 ?fl1 ?fc1 ?fk1; (case fa1 => k_is); (case fl1 => k_is); (case fc1 => k_is); (case fk1 => k_is))
    case h__law_shape => (refine' K8.funAt ?fa1 ?fl1 ?fc1 ?fk1; (case fa1 => k_is); (case fl1 => k_is); (case fc1 => k_is); (case fk1 => k_is))
    case h__law_is_row => (refine' K8.funAt ?fa1 ?fl1 ?fc1 ?fk1; (case fa1 => k_is); (case fl1 => k_is); (case fc1 => k_is); (case fk1 => k_is))
    case h__law_some => (refine' K8.funAt ?fa1 ?fl1 ?fc1 ?fk1; (case fa1 => k_is); (case fl1 => k_is); (case fc1 => k_is); (case fk1 => k_is))
    case h__law_told => (refine' K8.funAt ?fa1 ?fl1 ?fc1 ?fk1; (case fa1 => k_is); (case fl1 => k_is); (case fc1 => k_is); (case fk1 => k_is))
    case h__law_is_told => (refine' K8.funAt ?fa1 ?fl1 ?fc1 ?fk1; (case fa1 => k_is); (case fl1 => k_is); (case fc1 => k_is); (case fk1 => k_is))
    case h__law_symbols => (refine' K8.funAt ?fa1 ?fl1 ?fc1 ?fk1; (case fa1 => k_is); (case fl1 => k_is); (case fc1 => k_is); (case fk1 => k_is))
    case h__law_agrees => (refine' K8.funAt ?fa1 ?fl1 ?fc1 ?fk1; (case fa1 => k_is); (case fl1 => k_is); (case fc1 => k_is); (case fk1 => k_is))
    case h_law => (refine' K8.funAt ?fa1 ?fl1 ?fc1 ?fk1; (case fa1 => k_is); (case fl1 => k_is); (case fc1 => k_is); (case fk1 => k_is))
    case z_int => k_is
    case z_len => k_is
    case z_list => k_is
    case z_range => k_is
    case z_sum => k_is
    case z_tuple => k_is
    case z_min => k_is
    case z_max => k_is
    case z_enumerate => k_is
    case z_isinstance => k_is
    case z_bool => k_is
    case z_super => k_is
