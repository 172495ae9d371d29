import PyProof.Rows.All
import Wide.All
import OpenK.AllK
import Wide.FinOn
import Lean
import PySem.Challenge.RW_pq0157_01
open PySem PySem.W PyProof.Rows
set_option Elab.async false

-- part Hd
namespace Mine
set_option maxRecDepth 100000
set_option maxHeartbeats 8000000
open_top hd for PySem.Challenge.rw_pq0157_01
end Mine

-- part L0
namespace Mine
/-- n has k figures -/
def Figs (n k : Int) : Prop := 1 ≤ k ∧ n < 10 ^ k.toNat ∧ (k = 1 ∨ 10 ^ (k - 1).toNat ≤ n)
def rnd (n : Int) (p : Nat) : Int :=
  if 2 * (n % 10 ^ p) > 10 ^ p ∨ (2 * (n % 10 ^ p) = 10 ^ p ∧ n / 10 ^ p % 2 = 1) then n / 10 ^ p + 1 else n / 10 ^ p
def Strip (n e x y : Int) : Prop := ∃ j : Nat, n = x * 10 ^ j ∧ y = e + j ∧ x % 10 ≠ 0
/-- how many figures too many: m of them above d -/
def Over (z d : Int) (m : Nat) : Prop := z < 10 ^ (d.toNat + m) ∧ (m = 0 ∨ 10 ^ (d.toNat + m - 1) ≤ z)
def Res (c e d x y : Int) : Prop :=
  ∃ m : Nat, Over (c.natAbs : Int) d m ∧ ((rnd c.natAbs m = 0 ∧ x = 0 ∧ y = 0) ∨ (rnd c.natAbs m ≠ 0 ∧ ∃ b, Strip (rnd c.natAbs m) (e + m) b y ∧ x = if c < 0 then -b else b))

theorem p10_pos (p : Nat) : (0 : Int) < 10 ^ p := Int.pow_pos (by decide)
theorem p10_le {p q : Nat} (h : p ≤ q) : (10 : Int) ^ p ≤ 10 ^ q := by
  obtain ⟨k, rfl⟩ := Nat.le.dest h
  rw [Int.pow_add]
  have h1 := p10_pos p
  have h2 : (1 : Int) ≤ 10 ^ k := p10_pos k
  have h3 := Int.mul_le_mul_of_nonneg_left h2 (Int.le_of_lt h1)
  omega
theorem p10_succ (p : Nat) : (10 : Int) ^ (p + 1) = 10 * 10 ^ p := by rw [Int.pow_succ]; omega
theorem p10_add (p q : Nat) : (10 : Int) ^ (p + q) = 10 ^ p * 10 ^ q := Int.pow_add ..
theorem p10_lt_of {p q : Nat} (h : (10 : Int) ^ p < 10 ^ q) : p < q := by
  refine Nat.lt_of_not_le fun hc => ?_
  have := p10_le hc
  omega

theorem figs_uniq {n k k' : Int} (h : Figs n k) (h' : Figs n k') : k = k' := by
  obtain ⟨a, b, c⟩ := h
  obtain ⟨a', b', c'⟩ := h'
  have key : ∀ {k k' : Int}, 1 ≤ k → n < 10 ^ k.toNat → 1 ≤ k' → (k' = 1 ∨ 10 ^ (k' - 1).toNat ≤ n) → ¬ k < k' := by
    intro k k' a b a' c' hlt
    rcases c' with c' | c'
    · omega
    · have := p10_le (show k.toNat ≤ (k' - 1).toNat by omega)
      omega
  have h1 := key a b a' c'
  have h2 := key a' b' a c
  omega

theorem over_uniq {z d : Int} {m m' : Nat} (h : Over z d m) (h' : Over z d m') : m = m' := by
  have key : ∀ {m m' : Nat}, Over z d m → Over z d m' → ¬ m < m' := by
    rintro m m' ⟨a, _⟩ ⟨_, c'⟩ hlt
    rcases c' with c' | c'
    · omega
    · have := p10_le (show d.toNat + m ≤ d.toNat + m' - 1 by omega)
      omega
  have h1 := key h h'
  have h2 := key h' h
  omega

theorem strip_uniq {n e x y x' y' : Int} (h : Strip n e x y) (h' : Strip n e x' y') : x = x' ∧ y = y' := by
  have key : ∀ {x x' : Int} {j j' : Nat}, x * 10 ^ j = x' * 10 ^ j' → x % 10 ≠ 0 → ¬ j < j' := by
    intro x x' j j' he hx hlt
    have e1 : j' = j + (j' - j - 1 + 1) := by omega
    rw [e1, p10_add, p10_succ] at he
    have hp := p10_pos j
    have e2 : x' * (10 ^ j * (10 * 10 ^ (j' - j - 1))) = (10 * (x' * 10 ^ (j' - j - 1))) * 10 ^ j := by
      simp only [Int.mul_left_comm, Int.mul_comm]
    rw [e2] at he
    have := Int.eq_of_mul_eq_mul_right (Int.ne_of_gt hp) he
    omega
  obtain ⟨j, a, b, c⟩ := h
  obtain ⟨j', a', b', c'⟩ := h'
  have he : x * 10 ^ j = x' * 10 ^ j' := by rw [← a, ← a']
  have h1 := key he c
  have h2 := key he.symm c'
  have ej : j = j' := by omega
  subst ej
  have hp := p10_pos j
  exact ⟨Int.eq_of_mul_eq_mul_right (Int.ne_of_gt hp) he, by omega⟩

theorem res_uniq {c e d x y x' y' : Int} (h : Res c e d x y) (h' : Res c e d x' y') : x = x' ∧ y = y' := by
  obtain ⟨m, o, h⟩ := h
  obtain ⟨m', o', h'⟩ := h'
  have em := over_uniq o o'
  subst em
  rcases h with ⟨a, b, c⟩ | ⟨a, b, s, t⟩ <;> rcases h' with ⟨a', b', c'⟩ | ⟨a', b', s', t'⟩
  · subst b; subst c; subst b'; subst c'; exact ⟨rfl, rfl⟩
  · exact absurd a a'
  · exact absurd a' a
  · obtain ⟨u, v⟩ := strip_uniq s s'
    subst u
    exact ⟨by rw [t, t'], v⟩

def SI (n0 e0 a b : Int) : Prop := 0 ≤ a ∧ ∃ j : Nat, n0 = a * 10 ^ j ∧ b = e0 + j
theorem si_start {n0 e0 : Int} (h : 0 ≤ n0) : SI n0 e0 n0 e0 := ⟨h, 0, by simp, by simp⟩
theorem si_step {n0 e0 a b : Int} (h : SI n0 e0 a b) (hm : a.fmod 10 = 0) : SI n0 e0 (a.fdiv 10) (b + 1) := by
  obtain ⟨h0, j, h1, h2⟩ := h
  rw [Int.fmod_eq_emod_of_nonneg _ (by decide)] at hm
  rw [Int.fdiv_eq_ediv_of_nonneg _ (by decide)]
  refine ⟨by omega, j + 1, ?_, by omega⟩
  rw [p10_succ, h1, ← Int.mul_assoc]
  congr 1
  omega
theorem si_mu {a : Int} (h : 0 < a) : (a.fdiv 10).toNat < a.toNat := by
  rw [Int.fdiv_eq_ediv_of_nonneg _ (by decide)]
  omega
theorem si_strip {n0 e0 a b : Int} (h : SI n0 e0 a b) (hm : a.fmod 10 ≠ 0) : Strip n0 e0 a b := by
  obtain ⟨h0, j, h1, h2⟩ := h
  rw [Int.fmod_eq_emod_of_nonneg _ (by decide)] at hm
  exact ⟨j, h1, h2, hm⟩
theorem si_pos {n0 e0 a b : Int} (h : SI n0 e0 a b) (hn : n0 ≠ 0) : 0 < a := by
  obtain ⟨h0, j, h1, h2⟩ := h
  by_cases e : a = 0
  · rw [e, Int.zero_mul] at h1
    exact absurd h1 hn
  · omega
def SIp (n0 e0 a b : Int) : Prop := SI n0 e0 a b ∧ n0 ≠ 0
theorem figs_le {n k : Int} {q : Nat} (h : Figs n k) (hn : n < 10 ^ q) (hq : 1 ≤ q) : k ≤ q := by
  obtain ⟨a, b, c⟩ := h
  rcases c with c | c
  · omega
  · have := p10_lt_of (show (10 : Int) ^ (k - 1).toNat < 10 ^ q by omega)
    omega
theorem rnd_nonneg {n : Int} (p : Nat) (h : 0 ≤ n) : 0 ≤ rnd n p := by
  have := Int.ediv_nonneg h (Int.le_of_lt (p10_pos p))
  unfold rnd
  split <;> omega
theorem rnd_le {n : Int} (p : Nat) (h : 0 ≤ n) : rnd n p ≤ n + 1 := by
  have h1 := p10_pos p
  have h2 : n / 10 ^ p ≤ n := by
    have h3 := Int.ediv_mul_le n (Int.ne_of_gt h1)
    have h4 := Int.ediv_nonneg h (Int.le_of_lt h1)
    have h5 := Int.mul_le_mul_of_nonneg_left (show (1 : Int) ≤ 10 ^ p by omega) h4
    omega
  unfold rnd
  split <;> omega
theorem rnd_0 (n : Int) : rnd n 0 = n := by
  have h1 : n % 10 ^ 0 = 0 := by rw [Int.pow_zero]; omega
  have h2 : n / 10 ^ 0 = n := by rw [Int.pow_zero]; omega
  have h3 : (10 : Int) ^ 0 = 1 := Int.pow_zero _
  unfold rnd
  rw [h1, h2, h3]
  rw [if_neg]
  omega
theorem natAbs_if (c : Int) : (c.natAbs : Int) = if c < 0 then -c else c := by split <;> omega
theorem over_a {z d kf : Int} (h : Figs z kf) (hd : 1 ≤ d) (hm : 0 < kf - d) : Over z d (kf - d).toNat := by
  obtain ⟨a, b, c⟩ := h
  have e1 : d.toNat + (kf - d).toNat = kf.toNat := by omega
  have e2 : d.toNat + (kf - d).toNat - 1 = (kf - 1).toNat := by omega
  refine ⟨by rw [e1]; exact b, .inr ?_⟩
  rw [e2]
  exact c.resolve_left (by omega)
theorem over_b {z d kf : Int} (h : Figs z kf) (hm : ¬ 0 < kf - d) : Over z d 0 := by
  obtain ⟨a, b, c⟩ := h
  have := p10_le (show kf.toNat ≤ d.toNat + 0 by omega)
  exact ⟨by omega, .inl rfl⟩
theorem res_a0 {c e d kf : Int} (h : Figs (if c < 0 then -c else c) kf) (hd : 1 ≤ d) (hm : 0 < kf - d) (h0 : rnd (if c < 0 then -c else c) (kf - d).toNat = 0) : Res c e d 0 0 := by
  rw [← natAbs_if] at h h0
  exact ⟨_, over_a h hd hm, .inl ⟨h0, rfl, rfl⟩⟩
theorem res_b0 {c e d kf : Int} (h : Figs (if c < 0 then -c else c) kf) (hm : ¬ 0 < kf - d) (h0 : (if c < 0 then -c else c) = 0) : Res c e d 0 0 := by
  rw [← natAbs_if] at h h0
  exact ⟨_, over_b h hm, .inl ⟨by rw [rnd_0]; exact h0, rfl, rfl⟩⟩
theorem res_a {c e d kf a b x : Int} (h : Figs (if c < 0 then -c else c) kf) (hd : 1 ≤ d) (hm : 0 < kf - d) (hs : SIp (rnd (if c < 0 then -c else c) (kf - d).toNat) (e + (kf - d)) a b) (hf : a.fmod 10 ≠ 0) (hx : x = if c < 0 then -a else a) : Res c e d x b := by
  rw [← natAbs_if] at h hs
  have e1 : e + (kf - d) = e + ((kf - d).toNat : Int) := by omega
  rw [e1] at hs
  exact ⟨_, over_a h hd hm, .inr ⟨hs.2, a, si_strip hs.1 hf, hx⟩⟩
theorem res_b {c e d kf a b x : Int} (h : Figs (if c < 0 then -c else c) kf) (hm : ¬ 0 < kf - d) (hs : SIp (if c < 0 then -c else c) e a b) (hf : a.fmod 10 ≠ 0) (hx : x = if c < 0 then -a else a) : Res c e d x b := by
  rw [← natAbs_if] at h hs
  have e1 : e = e + ((0 : Nat) : Int) := by omega
  rw [e1] at hs
  refine ⟨_, over_b h hm, .inr ⟨by rw [rnd_0]; exact hs.2, a, by rw [rnd_0]; exact si_strip hs.1 hf, hx⟩⟩
theorem range_ok {n e a b k : Int} (h : SIp n e a b) (hk : Figs a k) (hn : n ≤ 10 ^ 30) (he1 : -30 ≤ e) (he2 : e ≤ 60) : -99 ≤ b + k - 1 ∧ b + k - 1 ≤ 99 := by
  have ha := si_pos h.1 h.2
  obtain ⟨⟨h0, j, h1, h2⟩, _⟩ := h
  obtain ⟨k1, k2, k3⟩ := hk
  have h4 : (10 : Int) ^ ((k - 1).toNat + j) ≤ 10 ^ 30 := by
    refine Int.le_trans ?_ hn
    rw [h1, p10_add]
    refine Int.mul_le_mul_of_nonneg_right ?_ (Int.le_of_lt (p10_pos j))
    rcases k3 with k3 | k3
    · subst k3; exact ha
    · exact k3
  have h5 : (k - 1).toNat + j ≤ 30 := by
    refine Nat.le_of_not_lt fun hc => ?_
    have h6 := p10_le (show 31 ≤ (k - 1).toNat + j by omega)
    have h7 : (10 : Int) ^ 30 < 10 ^ 31 := by decide
    omega
  omega
theorem abs_nn (c : Int) : 0 ≤ (if c < 0 then -c else c) := by split <;> omega
end Mine

-- part C0
namespace Mine
set_option maxRecDepth 100000
set_option maxHeartbeats 8000000
noncomputable abbrev LO : List Str := looseW hd.view_39 [Str.ofString "BasicError"]

/-- what a call of the def at f, upon vs, with the ledger news, comes back with -/
def Ctr (dd uu : Nat) (f : Addr) (news : List (Addr × Obj)) (vs : List Value) (Post : Value → List (Addr × Obj) → Prop) : Prop :=
  ∀ (w : World) (mean : ExcName → Option Value) (mg mb : Str → Option Value)
    (dp un : Nat) (gd : Option (List Code)) (cn : Str) (cs : Scope) (a : Addr) (ccd : Value) (cl : List (Str × Addr)) (outer : List Env) (A₀ : Around) (base h₀ : Heap) (L : Addr) (m : Str → Option Value) (s : Shared) (Q E : Value → Shared → Prop),
    Below A₀ base outer h₀ → Fr h₀ L s.heap m → (hd.heap_39 w.params).In h₀ → News h₀ L s.heap news → Top hd.view_39 LO mean mg mb h₀ → cs.kind = .function →
    dp + dd < recursionLimit → un + uu < cLine →
    (∀ (r : Value) (news' : List (Addr × Obj)) (h' : Heap) (tk' : Nat), Post r news' → Fr h₀ L h' m → News h₀ L h' news' → Q r { s with heap := h', toks := tk' }) →
    wpAny (model PySem.Challenge.rw_pq0157_01.row.prog w) (ktrTop dp un gd cn cs L a ccd cl outer) (call (.ref f) vs) Q E s


theorem Ctr.use {dd uu : Nat} {f : Addr} {news : List (Addr × Obj)} {vs : List Value} {Post : Value → List (Addr × Obj) → Prop}
    {w : World} {mean : ExcName → Option Value} {mg mb : Str → Option Value}
    {dp un : Nat} {gd : Option (List Code)} {cn : Str} {cs : Scope} {a : Addr} {ccd : Value} {cl : List (Str × Addr)} {outer : List Env} {A₀ : Around} {base h₀ : Heap} {L : Addr} {m : Str → Option Value} {s : Shared} {Q E : Value → Shared → Prop}
    (B : Below A₀ base outer h₀) (F : Fr h₀ L s.heap m) (X : (hd.heap_39 w.params).In h₀) (N : News h₀ L s.heap news) (T : Top hd.view_39 LO mean mg mb h₀) (hk : cs.kind = .function)
    (C : Ctr dd uu f news vs Post) (hdp : dp + dd < recursionLimit) (hu : un + uu < cLine)
    (hret : ∀ (r : Value) (news' : List (Addr × Obj)) (h' : Heap) (tk' : Nat), Post r news' → Fr h₀ L h' m → News h₀ L h' news' → Q r { s with heap := h', toks := tk' }) :
    wpAny (model PySem.Challenge.rw_pq0157_01.row.prog w) (ktrTop dp un gd cn cs L a ccd cl outer) (call (.ref f) vs) Q E s :=
  C w mean mg mb dp un gd cn cs a ccd cl outer A₀ base h₀ L m s Q E B F X N T hk hdp hu hret


theorem Ctr.use' {dd uu : Nat} {f : Addr} {news news0 : List (Addr × Obj)} {vs : List Value} {Post : Value → List (Addr × Obj) → Prop}
    {w : World} {mean : ExcName → Option Value} {mg mb : Str → Option Value}
    {dp un : Nat} {gd : Option (List Code)} {cn : Str} {cs : Scope} {a : Addr} {ccd : Value} {cl : List (Str × Addr)} {outer : List Env} {A₀ : Around} {base h₀ : Heap} {L : Addr} {m : Str → Option Value} {s : Shared} {Q E : Value → Shared → Prop}
    (B : Below A₀ base outer h₀) (F : Fr h₀ L s.heap m) (X : (hd.heap_39 w.params).In h₀) (N : News h₀ L s.heap news0) (hsub : ∀ p ∈ news, p ∈ news0) (T : Top hd.view_39 LO mean mg mb h₀) (hk : cs.kind = .function)
    (C : Ctr dd uu f news vs Post) (hdp : dp + dd < recursionLimit) (hu : un + uu < cLine)
    (hret : ∀ (r : Value) (news' : List (Addr × Obj)) (h' : Heap) (tk' : Nat), Post r news' → Fr h₀ L h' m → News h₀ L h' news' → Q r { s with heap := h', toks := tk' }) :
    wpAny (model PySem.Challenge.rw_pq0157_01.row.prog w) (ktrTop dp un gd cn cs L a ccd cl outer) (call (.ref f) vs) Q E s :=
  C w mean mg mb dp un gd cn cs a ccd cl outer A₀ base h₀ L m s Q E B F X (cb_drop N hsub) T hk hdp hu hret


def W2End (h₀ : Heap) (L : Addr) (s : Shared) (x y : Str) (m : Str → Option Value) (news : List (Addr × Obj)) (P : Int → Int → Prop) (μ : Int → Int → Nat) (a b : Int) (s₂ : Shared) : Prop :=
  ∃ (a' : Int) (ta : Tok) (b' : Int) (tb : Tok) (h' : Heap) (tk : Nat) (m' : Str → Option Value) (news' : List (Addr × Obj)), s₂ = { s with heap := h', toks := tk } ∧ Fr h₀ L h' m' ∧ News h₀ L h' news' ∧ (∀ p ∈ news, p ∈ news') ∧ m' x = some (.int a' ta) ∧ m' y = some (.int b' tb) ∧ (∀ z, z ≠ x → z ≠ y → m' z = m z) ∧ P a' b' ∧ μ a' b' < μ a b
def W2P (h₀ : Heap) (L : Addr) (s : Shared) (x y : Str) (m : Str → Option Value) (news : List (Addr × Obj)) (P : Int → Int → Prop) (μ : Int → Int → Nat) (Q : Flow → Shared → Prop) (a b : Int) (f : Flow) (s₂ : Shared) : Prop :=
  match f with
  | .ret v => Q (.ret v) s₂
  | .brk => Q .next s₂
  | _ => W2End h₀ L s x y m news P μ a b s₂
theorem while2 {prog : Program} {w : World} {A : Around} {E : Value → Shared → Prop} {Q : Flow → Shared → Prop} {s : Shared} {env : Env} {h₀ : Heap} {L : Addr} {test : PySem.Expr} {body : List Stmt} {pos : Pos} {m : Str → Option Value} {news : List (Addr × Obj)}
    (x y : Str) (PP : Int → Int → Int → Int → Prop) (μ : Int → Int → Nat) {x0 y0 : Int} {tx ty : Tok}
    (F : Fr h₀ L s.heap m) (N : News h₀ L s.heap news) (hx : m x = some (.int x0 tx)) (hy : m y = some (.int y0 ty)) (hP : PP x0 y0 x0 y0)
    (turn : ∀ (a : Int) (ta : Tok) (b : Int) (tb : Tok) (h : Heap) (tk : Nat), PP x0 y0 a b → Fr h₀ L h (fun z => if z = x then some (.int a ta) else if z = y then some (.int b tb) else m z) → News h₀ L h news →
      wpAny (model prog w) A (isTrue test env (eval test env)) (fun r s₂ => if r = true then wpAny (model prog w) A (execs body env) (W2P h₀ L s x y m news (PP x0 y0) μ Q a b) E s₂ else Q .next s₂) E { s with heap := h, toks := tk })
    (hE : PassesOwn (model prog w) A env E := by passes_own) :
    wpAny (model prog w) A (exec (.While test body [] pos) env) Q E s := by
  refine While_inv2 (fun n m₁ nx => ∃ (a : Int) (ta : Tok) (b : Int) (tb : Tok), nx = news ∧ μ a b = n ∧ m₁ = (fun z => if z = x then some (Value.int a ta) else if z = y then some (Value.int b tb) else m z) ∧ PP x0 y0 a b) (n₀ := μ x0 y0) F N ⟨x0, tx, y0, ty, rfl, rfl, ?_, hP⟩ ?_ hE
  · funext z
    by_cases h1 : z = x
    · rw [if_pos h1, h1]; exact hx
    · rw [if_neg h1]
      by_cases h2 : z = y
      · rw [if_pos h2, h2]; exact hy
      · rw [if_neg h2]
  · rintro n m₁ nx h tk F₁ N₁ ⟨a, ta, b, tb, rfl, rfl, rfl, hp⟩
    refine wpAny_mono (turn a ta b tb h tk hp F₁ N₁) (fun r s₂ q => ?_) fun _ _ x => x
    cases r with
    | false => simpa using q
    | true =>
      simp only [if_true] at q ⊢
      refine wpAny_mono q (fun f s₃ q => ?_) fun _ _ x => x
      have key : W2End h₀ L s x y m nx (PP x0 y0) μ a b s₃ → ∃ h' tk m₂ news₂ n', s₃ = { s with heap := h', toks := tk } ∧ Fr h₀ L h' m₂ ∧ News h₀ L h' news₂ ∧ n' < μ a b ∧
          ∃ (a : Int) (ta : Tok) (b : Int) (tb : Tok), news₂ = nx ∧ μ a b = n' ∧ m₂ = (fun z => if z = x then some (Value.int a ta) else if z = y then some (Value.int b tb) else m z) ∧ PP x0 y0 a b := by
        rintro ⟨a', ta', b', tb', h', tk', m', news', rfl, F', N', hsub, ha, hb, hr, hp', hm⟩
        refine ⟨h', tk', m', nx, μ a' b', rfl, F', fun p hp => N' p (hsub p hp), hm, a', ta', b', tb', rfl, rfl, ?_, hp'⟩
        funext z
        by_cases h1 : z = x
        · rw [if_pos h1, h1]; exact ha
        · rw [if_neg h1]
          by_cases h2 : z = y
          · rw [if_pos h2, h2]; exact hb
          · rw [if_neg h2]; exact hr z h1 h2
      cases f with
      | ret v => exact q
      | brk => exact q
      | next => exact key q
      | cont => exact key q

theorem log10_lt {p : Nat} (h : p ≤ 100) : ((10 : Int) ^ p).natAbs.log2 < 9000 := by
  have e : ((10 : Int) ^ p).natAbs = 10 ^ p := by rw [Int.natAbs_pow]; rfl
  rw [e]
  have h1 : 10 ^ p ≤ 10 ^ 100 := Nat.pow_le_pow_right (by decide) h
  have h2 : 10 ^ 100 < 2 ^ 9000 := by decide +kernel
  exact (Nat.log2_lt (Nat.ne_of_gt (Nat.pow_pos (by decide)))).mpr (Nat.lt_of_le_of_lt h1 h2)
theorem logI_lt {y : Int} (h0 : 0 < y) (h : y < 2 ^ 63) : y.natAbs.log2 < 9000 :=
  (Nat.log2_lt (by omega)).mpr (Nat.lt_of_lt_of_le (show y.natAbs < 2 ^ 63 by omega) (Nat.pow_le_pow_right (by decide) (by decide)))
theorem fdiv_p10 (n : Int) (p : Nat) : n.fdiv (10 ^ p) = n / 10 ^ p := Int.fdiv_eq_ediv_of_nonneg _ (Int.le_of_lt (p10_pos p))
theorem fmod_p10 (n : Int) (p : Nat) : n.fmod (10 ^ p) = n % 10 ^ p := Int.fmod_eq_emod_of_nonneg _ (Int.le_of_lt (p10_pos p))
theorem fdiv_pos' (n : Int) {b : Int} (h : 0 < b) : n.fdiv b = n / b := Int.fdiv_eq_ediv_of_nonneg _ (Int.le_of_lt h)
theorem fmod_pos' (n : Int) {b : Int} (h : 0 < b) : n.fmod b = n % b := Int.fmod_eq_emod_of_nonneg _ (Int.le_of_lt h)
theorem p10_ne (p : Nat) : (10 : Int) ^ p ≠ 0 := Int.ne_of_gt (p10_pos p)
end Mine

-- part C1
namespace Mine
set_option maxRecDepth 100000
set_option maxHeartbeats 8000000

theorem acc_pow : ∀ k : Nat, accUp (fun _ x => x * 10) 1 (10 : Int) ((k : Int) + 1) = 10 ^ (k + 1) := by
  intro k
  induction k with
  | zero => rw [show ((0 : Nat) : Int) + 1 = 1 from rfl, accUp_start]; rfl
  | succ k ih =>
    rw [show ((k + 1 : Nat) : Int) + 1 = ((k : Int) + 1) + 1 by omega, accUp_succ (by omega), ih, p10_succ (k + 1)]
    omega
theorem acc_pow' {k : Int} (h : 1 ≤ k) : accUp (fun _ x => x * 10) 1 (10 : Int) k = 10 ^ k.toNat := by
  have e : k = ((k.toNat - 1 : Nat) : Int) + 1 := by omega
  have e2 : k.toNat = (k.toNat - 1) + 1 := by omega
  rw [e, acc_pow]
  congr 1
theorem figs_of_acc {n k : Int} (h1 : 1 ≤ k) (ha : ∀ j, 1 ≤ j → j < k → decide (accUp (fun _ x => x * 10) 1 10 j ≤ n) = true) (hb : decide (accUp (fun _ x => x * 10) 1 10 k ≤ n) = false) : Figs n k := by
  refine ⟨h1, ?_, ?_⟩
  · have := of_decide_eq_false hb
    rw [acc_pow' h1] at this
    omega
  · by_cases hk : k = 1
    · exact .inl hk
    · right
      have := of_decide_eq_true (ha (k - 1) (by omega) (by omega))
      rwa [acc_pow' (by omega)] at this

set_option maxHeartbeats 8000000 in
theorem c_figures (n : Int) (tn : Tok) (news : List (Addr × Obj)) :
    Ctr 1 8 44 news [.int n tn] (fun r news' => news' = news ∧ ∃ k t, r = .int k t ∧ Figs n k) := by
  unfold Ctr
  k_fill
  w_top off
  intro w mean mg mb dp un gd cn cs a ccd cl outer A₀ base h₀ L m s Q E B F X N T hk hdp hu hret
  refine wpAny_call ?_
  k_dflt cell_enter
  k_steps
  all_goals (refine hret _ _ _ _ ⟨rfl, _, _, rfl, ?_⟩ (by assumption) (cb_drop (by assumption) (fun p hp => by simp only [List.mem_cons, hp, or_true])))
  exact figs_of_acc (by assumption) (by assumption) (by assumption)
end Mine

-- part C2
namespace Mine
set_option maxRecDepth 100000
set_option maxHeartbeats 8000000
local macro_rules | `(tactic| walk_at "binaryOp FloorDiv int int") => `(tactic| (k_here; (with_reducible refine floordiv_int ?kbe ?_ (Or.inl (PyProof.noPylong_of_log2 ?kbp))); (case kbe => first | decide | exact p10_ne _ | omega | fail "fdiv: ne"); (case kbp => first | decide +kernel | exact log10_lt (by omega) | exact logI_lt (by omega) (by omega) | fail "fdiv: log")))
local macro_rules | `(tactic| walk_at "binaryOp Mod int int") => `(tactic| (k_here; (with_reducible refine mod_int' ?kbe ?_); (case kbe => first | decide | exact p10_ne _ | omega | fail "mod: ne")))
local macro_rules | `(tactic| walk_at "binaryOp Pow int int") => `(tactic| (k_here; (with_reducible refine pow_int_small ?kb1 ?kb2 ?kb3 ?_); (case kb1 => omega); (case kb2 => omega); (case kb3 => decide)))
local macro_rules | `(tactic| walk_at "call ref") => `(tactic| (k_here; k_dflt (refine' Ctr.use ?k1 ?k2 ?k3 ?k4 ?k5 ?kK (c_figures _ _ _) ?kd ?ku ?_; (case k1 => k_asm); (case k2 => k_asm); (case k3 => k_asm); (case k4 => k_asm); (case k5 => k_asm); (case kK => first | exact rfl | assumption); (case kd => ktr_room); (case ku => ktr_units); k_whole); intro r9 news9 h9 tk9 hP9 F9 N9; obtain ⟨e9, kf9, tf9, e9', hf9⟩ := hP9; replace e9 := e9.symm; subst e9; subst e9'; (try dsimp only); (try k_sweep); (try k_fold)))
local macro_rules | `(tactic| walk_at "W2P") => `(tactic| (dsimp only [W2P]))
local macro_rules | `(tactic| k_mem) => `(tactic| first | assumption | exact List.mem_cons_self | (refine List.mem_cons_of_mem _ ?_; k_mem))

theorem rnd_a {n : Int} {p : Nat} (h : 10 ^ p < 2 * n.fmod (10 ^ p)) : n.fdiv (10 ^ p) + 1 = rnd n p := by
  rw [fmod_p10] at h
  rw [fdiv_p10, rnd, if_pos (.inl h)]
theorem rnd_b {n : Int} {p : Nat} (h : 2 * n.fmod (10 ^ p) = 10 ^ p) (k : (n.fdiv (10 ^ p)).fmod 2 = 1) : n.fdiv (10 ^ p) + 1 = rnd n p := by
  rw [fmod_p10] at h
  rw [fdiv_p10, fmod_pos' _ (by decide)] at k
  rw [fdiv_p10, rnd, if_pos (.inr ⟨h, k⟩)]
theorem rnd_c {n : Int} {p : Nat} (h : ¬ 10 ^ p < 2 * n.fmod (10 ^ p)) (k : (n.fdiv (10 ^ p)).fmod 2 ≠ 1) : n.fdiv (10 ^ p) = rnd n p := by
  rw [fmod_p10] at h
  rw [fdiv_p10, fmod_pos' _ (by decide)] at k
  rw [fdiv_p10, rnd, if_neg (fun c => c.elim h fun c => k c.2)]
theorem rnd_d {n : Int} {p : Nat} (h : ¬ 10 ^ p < 2 * n.fmod (10 ^ p)) (k : 2 * n.fmod (10 ^ p) ≠ 10 ^ p) : n.fdiv (10 ^ p) = rnd n p := by
  rw [fmod_p10] at h k
  rw [fdiv_p10, rnd, if_neg (fun c => c.elim h fun c => k c.1)]
theorem c_rounded (n p : Int) (tn tp : Tok) (news : List (Addr × Obj)) (h1 : 1 ≤ p) (h2 : p ≤ 60) (hf : ∀ k, Figs n k → p ≤ k + 1) :
    Ctr 2 16 51 news [.int n tn, .int p tp] (fun r news' => news' = news ∧ ∃ t, r = .int (rnd n p.toNat) t) := by
  unfold Ctr
  k_fill
  w_top off
  intro w mean mg mb dp un gd cn cs a ccd cl outer A₀ base h₀ L m s Q E B F X N T hk hdp hu hret
  refine wpAny_call ?_
  k_dflt cell_enter
  k_steps
  · exfalso
    have h9 := hf _ (by assumption)
    omega
  all_goals (refine hret _ _ _ _ ⟨rfl, ktn_int ?_⟩ (by assumption) (cb_drop (by assumption) (fun p hp => by simp only [List.mem_cons, hp, or_true])))
  · exact rnd_a (by assumption)
  · exact rnd_b (by assumption) (by assumption)
  · exact rnd_c (by assumption) (by assumption)
  · exact rnd_d (by assumption) (by assumption)
end Mine

-- part C3
namespace Mine
set_option maxRecDepth 100000
set_option maxHeartbeats 8000000
local macro_rules | `(tactic| walk_at "binaryOp FloorDiv int int") => `(tactic| (k_here; (with_reducible refine floordiv_int ?kbe ?_ (Or.inl (PyProof.noPylong_of_log2 ?kbp))); (case kbe => first | decide | exact p10_ne _ | omega | fail "fdiv: ne"); (case kbp => first | decide +kernel | exact log10_lt (by omega) | exact logI_lt (by omega) (by omega) | fail "fdiv: log")))
local macro_rules | `(tactic| walk_at "binaryOp Mod int int") => `(tactic| (k_here; (with_reducible refine mod_int' ?kbe ?_); (case kbe => first | decide | exact p10_ne _ | omega | fail "mod: ne")))
local macro_rules | `(tactic| walk_at "binaryOp Pow int int") => `(tactic| (k_here; (with_reducible refine pow_int_small ?kb1 ?kb2 ?kb3 ?_); (case kb1 => omega); (case kb2 => omega); (case kb3 => decide)))
local macro_rules | `(tactic| walk_at "call ref") => `(tactic| (k_here; k_dflt (refine' Ctr.use ?k1 ?k2 ?k3 ?k4 ?k5 ?kK (c_figures _ _ _) ?kd ?ku ?_; (case k1 => k_asm); (case k2 => k_asm); (case k3 => k_asm); (case k4 => k_asm); (case k5 => k_asm); (case kK => first | exact rfl | assumption); (case kd => ktr_room); (case ku => ktr_units); k_whole); intro r9 news9 h9 tk9 hP9 F9 N9; obtain ⟨e9, kf9, tf9, e9', hf9⟩ := hP9; replace e9 := e9.symm; subst e9; subst e9'; (try dsimp only); (try k_sweep); (try k_fold)))
local macro_rules | `(tactic| walk_at "W2P") => `(tactic| (dsimp only [W2P]))
local macro_rules | `(tactic| k_mem) => `(tactic| first | assumption | exact List.mem_cons_self | (refine List.mem_cons_of_mem _ ?_; k_mem))
local macro_rules | `(tactic| walk_at "call ref") => `(tactic| (k_here; k_dflt (refine' Ctr.use ?k1 ?k2 ?k3 ?k4 ?k5 ?kK (c_rounded _ _ _ _ _ ?h1 ?h2 ?h3) ?kd ?ku ?_; (case k1 => k_asm); (case k2 => k_asm); (case k3 => k_asm); (case k4 => k_asm); (case k5 => k_asm); (case kK => first | exact rfl | assumption); (case kd => ktr_room); (case ku => ktr_units); (case h1 => omega); (case h3 => ((rename Figs _ _ => hq9); intro k9 h9; have := figs_uniq h9 hq9; omega)); (case h2 => (have := figs_le (by assumption) (by assumption) (by decide); omega)); k_whole); intro r9 news9 h9 tk9 hP9 F9 N9; obtain ⟨e9, tf9, e9'⟩ := hP9; replace e9 := e9.symm; subst e9; subst e9'; (try dsimp only); (try k_sweep); (try k_fold)))

local macro_rules | `(tactic| walk_at "exec While Compare") => `(tactic| (k_here; (rename Fr _ _ _ _ => lF'); (rename News _ _ _ _ => lN'); (with_unfolding_all refine' while2 (Str.ofString "size") (Str.ofString "exponent") SIp (fun a _ => a.toNat) lF' lN' ?hx ?hy ?hP ?_); (case hx => (with_unfolding_all rfl)); (case hy => (with_unfolding_all rfl)); (case hP => (refine ⟨si_start ?_, by assumption⟩; first | exact abs_nn _ | exact rnd_nonneg _ (abs_nn _))); k_whole; clear lF' lN'; intro a9 ta9 b9 tb9 h9 tk9 hP9 F9 N9; (try k_fold)))
theorem w2_end_made {h₀ : Heap} {L : Addr} {s s₂ : Shared} {m m' : Str → Option Value} {news news' : List (Addr × Obj)} {n0 e0 a b : Int} {ta tb : Tok} {h' : Heap} {tk : Nat}
    (hs : s₂ = { s with heap := h', toks := tk }) (F : Fr h₀ L h' m') (N : News h₀ L h' news') (hn : ∀ p ∈ news, p ∈ news') (hx : m' (Str.ofString "size") = some (.int (a.fdiv 10) ta)) (hy : m' (Str.ofString "exponent") = some (.int (b + 1) tb))
    (hr : ∀ z, z ≠ Str.ofString "size" → z ≠ Str.ofString "exponent" → m' z = m z) (hp : SIp n0 e0 a b) (hm : a.fmod 10 = 0) :
    W2End h₀ L s (Str.ofString "size") (Str.ofString "exponent") m news (SIp n0 e0) (fun a _ => a.toNat) a b s₂ :=
  ⟨a.fdiv 10, ta, b + 1, tb, h', tk, m', news', hs, F, N, hn, hx, hy, hr, ⟨si_step hp.1 hm, hp.2⟩, si_mu (si_pos hp.1 hp.2)⟩
local macro_rules | `(tactic| walk_at "W2End") => `(tactic| ((rename Fr _ _ _ _ => lF'); (rename News _ _ _ _ => lN'); (with_unfolding_all refine' w2_end_made rfl lF' lN' ?hn ?hx ?hy ?hr ?hp ?hm); (case hx => (with_unfolding_all rfl)); (case hy => (with_unfolding_all rfl)); (case hn => (intro p hp; simp only [List.mem_cons, hp, or_true])); (case hr => (intro z h1 h2; simp only [h1, h2, if_false])); (case hp => assumption); (case hm => assumption)))
theorem made_no1 {z e d kf a b k : Int} (hz : z < 10 ^ 30) (he1 : -30 ≤ e) (he2 : e ≤ 30) (hd1 : 1 ≤ d) (h : Figs z kf) (hm : 0 < kf - d) (hs : SIp (rnd z (kf - d).toNat) (e + (kf - d)) a b) (hk : Figs a k) (hc : 99 < b + k - 1 ∨ b + k - 1 < -99) : False := by
  have h1 := figs_le h hz (by decide)
  have h0 : 0 ≤ z := by
    obtain ⟨k1, k2, k3⟩ := h
    have := p10_pos (kf - 1).toNat
    rcases k3 with k3 | k3 <;> omega
  have h2 := rnd_le (kf - d).toNat h0
  have h3 := range_ok hs hk (by omega) (by omega) (by omega)
  omega
theorem made_no2 {z e a b k : Int} (hz : z < 10 ^ 30) (he1 : -30 ≤ e) (he2 : e ≤ 30) (hs : SIp z e a b) (hk : Figs a k) (hc : 99 < b + k - 1 ∨ b + k - 1 < -99) : False := by
  have h3 := range_ok hs hk (by omega) (by omega) (by omega)
  omega
theorem c_made (c e d : Int) (tc te td : Tok) (news : List (Addr × Obj)) (hsz : (if c < 0 then -c else c) < 10 ^ 30) (he1 : -30 ≤ e) (he2 : e ≤ 30) (hd1 : 1 ≤ d) (hd2 : d ≤ 8) :
    Ctr 3 24 58 news [.int c tc, .int e te, .int d td] (fun r news' => ∃ D x y t1 t2, r = .ref D ∧ news' = (D, ({ cls := .type "tuple", data := .seq #[.int x t1, .int y t2] } : Obj)) :: news ∧ AllLt D news ∧ Res c e d x y) := by
  unfold Ctr
  k_fill
  w_top off
  intro w mean mg mb dp un gd cn cs a ccd cl outer A₀ base h₀ L m s Q E B F X N T hk hdp hu hret
  refine wpAny_call ?_
  k_dflt cell_enter
  k_steps
  · ((refine hret _ _ _ _ ⟨_, _, _, _, _, rfl, rfl, ?_, ?_⟩ (by assumption) (cb_drop (by assumption) (List.forall_mem_cons.mpr ⟨by k_mem, fun p hp => by simp only [List.mem_cons, hp, or_true]⟩))); (first | assumption | exact (And.right (by assumption)) | exact allLt_of (by assumption)))
    exact res_a0 (by assumption) hd1 (by assumption) (by assumption)
  · exfalso
    exact made_no1 hsz he1 he2 hd1 (by assumption) (by assumption) (by assumption) (by assumption) (.inl (by assumption))
  · exfalso
    exact made_no1 hsz he1 he2 hd1 (by assumption) (by assumption) (by assumption) (by assumption) (.inr (by assumption))
  · ((refine hret _ _ _ _ ⟨_, _, _, _, _, rfl, rfl, ?_, ?_⟩ (by assumption) (cb_drop (by assumption) (List.forall_mem_cons.mpr ⟨by k_mem, fun p hp => by simp only [List.mem_cons, hp, or_true]⟩))); (first | assumption | exact (And.right (by assumption)) | exact allLt_of (by assumption)))
    exact res_a (by assumption) hd1 (by assumption) (by assumption) (by assumption) (by rw [if_pos (by assumption)])
  · ((refine hret _ _ _ _ ⟨_, _, _, _, _, rfl, rfl, ?_, ?_⟩ (by assumption) (cb_drop (by assumption) (List.forall_mem_cons.mpr ⟨by k_mem, fun p hp => by simp only [List.mem_cons, hp, or_true]⟩))); (first | assumption | exact (And.right (by assumption)) | exact allLt_of (by assumption)))
    exact res_a (by assumption) hd1 (by assumption) (by assumption) (by assumption) (by rw [if_neg (by assumption)])
  · ((refine hret _ _ _ _ ⟨_, _, _, _, _, rfl, rfl, ?_, ?_⟩ (by assumption) (cb_drop (by assumption) (List.forall_mem_cons.mpr ⟨by k_mem, fun p hp => by simp only [List.mem_cons, hp, or_true]⟩))); (first | assumption | exact (And.right (by assumption)) | exact allLt_of (by assumption)))
    exact res_b0 (by assumption) (by assumption) (by assumption)
  · exfalso
    exact made_no2 hsz he1 he2 (by assumption) (by assumption) (.inl (by assumption))
  · exfalso
    exact made_no2 hsz he1 he2 (by assumption) (by assumption) (.inr (by assumption))
  · ((refine hret _ _ _ _ ⟨_, _, _, _, _, rfl, rfl, ?_, ?_⟩ (by assumption) (cb_drop (by assumption) (List.forall_mem_cons.mpr ⟨by k_mem, fun p hp => by simp only [List.mem_cons, hp, or_true]⟩))); (first | assumption | exact (And.right (by assumption)) | exact allLt_of (by assumption)))
    exact res_b (by assumption) (by assumption) (by assumption) (by assumption) (by rw [if_pos (by assumption)])
  · ((refine hret _ _ _ _ ⟨_, _, _, _, _, rfl, rfl, ?_, ?_⟩ (by assumption) (cb_drop (by assumption) (List.forall_mem_cons.mpr ⟨by k_mem, fun p hp => by simp only [List.mem_cons, hp, or_true]⟩))); (first | assumption | exact (And.right (by assumption)) | exact allLt_of (by assumption)))
    exact res_b (by assumption) (by assumption) (by assumption) (by assumption) (by rw [if_neg (by assumption)])
end Mine

-- part C4
namespace Mine
set_option maxRecDepth 100000
set_option maxHeartbeats 8000000
local macro_rules | `(tactic| walk_at "binaryOp FloorDiv int int") => `(tactic| (k_here; (with_reducible refine floordiv_int ?kbe ?_ (Or.inl (PyProof.noPylong_of_log2 ?kbp))); (case kbe => first | decide | exact p10_ne _ | omega | fail "fdiv: ne"); (case kbp => first | decide +kernel | exact log10_lt (by omega) | exact logI_lt (by omega) (by omega) | fail "fdiv: log")))
local macro_rules | `(tactic| walk_at "binaryOp Mod int int") => `(tactic| (k_here; (with_reducible refine mod_int' ?kbe ?_); (case kbe => first | decide | exact p10_ne _ | omega | fail "mod: ne")))
local macro_rules | `(tactic| walk_at "binaryOp Pow int int") => `(tactic| (k_here; (with_reducible refine pow_int_small ?kb1 ?kb2 ?kb3 ?_); (case kb1 => omega); (case kb2 => omega); (case kb3 => decide)))
local macro_rules | `(tactic| walk_at "call ref") => `(tactic| (k_here; k_dflt (refine' Ctr.use ?k1 ?k2 ?k3 ?k4 ?k5 ?kK (c_figures _ _ _) ?kd ?ku ?_; (case k1 => k_asm); (case k2 => k_asm); (case k3 => k_asm); (case k4 => k_asm); (case k5 => k_asm); (case kK => first | exact rfl | assumption); (case kd => ktr_room); (case ku => ktr_units); k_whole); intro r9 news9 h9 tk9 hP9 F9 N9; obtain ⟨e9, kf9, tf9, e9', hf9⟩ := hP9; replace e9 := e9.symm; subst e9; subst e9'; (try dsimp only); (try k_sweep); (try k_fold)))
local macro_rules | `(tactic| walk_at "W2P") => `(tactic| (dsimp only [W2P]))
local macro_rules | `(tactic| k_mem) => `(tactic| first | assumption | exact List.mem_cons_self | (refine List.mem_cons_of_mem _ ?_; k_mem))
abbrev tp2 (x : Int) (t : Tok) (y : Int) (u : Tok) : Obj := { cls := .type "tuple", data := .seq #[.int x t, .int y u] }
abbrev tp3 (x : Int) (t : Tok) (y : Int) (u : Tok) (z : Int) (v : Tok) : Obj := { cls := .type "tuple", data := .seq #[.int x t, .int y u, .int z v] }

abbrev mn (a b : Int) : Int := if b < a then b else a
theorem c_alike {a0 a1 b0 b1 : Int} {ta0 ta1 tb0 tb1 : Tok} {pa pb : Addr} {news : List (Addr × Obj)} (ha : (pa, tp2 a0 ta0 a1 ta1) ∈ news) (hb : (pb, tp2 b0 tb0 b1 tb1) ∈ news)
    (ha0 : -10 ^ 8 < a0 ∧ a0 < 10 ^ 8) (hb0 : -10 ^ 8 < b0 ∧ b0 < 10 ^ 8) (ha1 : -6 ≤ a1 ∧ a1 ≤ 15) (hb1 : -6 ≤ b1 ∧ b1 ≤ 15) :
    Ctr 1 8 72 news [.ref pa, .ref pb] (fun r news' => ∃ D t1 t2 t3, r = .ref D ∧ news' = (D, tp3 (a0 * 10 ^ (a1 - mn a1 b1).toNat) t1 (b0 * 10 ^ (b1 - mn a1 b1).toNat) t2 (mn a1 b1) t3) :: news ∧ AllLt D news) := by
  unfold Ctr
  k_fill
  w_top off
  intro w mean mg mb dp un gd cn cs a ccd cl outer A₀ base h₀ L m s Q E B F X N T hk hdp hu hret
  refine wpAny_call ?_
  k_dflt cell_enter
  k_steps
  all_goals (refine hret _ _ _ _ ⟨_, _, _, _, rfl, rfl, ?_⟩ (by assumption) (by assumption))
  first | assumption | exact allLt_of (by assumption)
end Mine

-- part C5
namespace Mine
set_option maxRecDepth 100000
set_option maxHeartbeats 8000000
local macro_rules | `(tactic| walk_at "binaryOp FloorDiv int int") => `(tactic| (k_here; (with_reducible refine floordiv_int ?kbe ?_ (Or.inl (PyProof.noPylong_of_log2 ?kbp))); (case kbe => first | decide | exact p10_ne _ | omega | fail "fdiv: ne"); (case kbp => first | decide +kernel | exact log10_lt (by omega) | exact logI_lt (by omega) (by omega) | fail "fdiv: log")))
local macro_rules | `(tactic| walk_at "binaryOp Mod int int") => `(tactic| (k_here; (with_reducible refine mod_int' ?kbe ?_); (case kbe => first | decide | exact p10_ne _ | omega | fail "mod: ne")))
local macro_rules | `(tactic| walk_at "binaryOp Pow int int") => `(tactic| (k_here; (with_reducible refine pow_int_small ?kb1 ?kb2 ?kb3 ?_); (case kb1 => omega); (case kb2 => omega); (case kb3 => decide)))
local macro_rules | `(tactic| walk_at "call ref") => `(tactic| (k_here; k_dflt (refine' Ctr.use ?k1 ?k2 ?k3 ?k4 ?k5 ?kK (c_figures _ _ _) ?kd ?ku ?_; (case k1 => k_asm); (case k2 => k_asm); (case k3 => k_asm); (case k4 => k_asm); (case k5 => k_asm); (case kK => first | exact rfl | assumption); (case kd => ktr_room); (case ku => ktr_units); k_whole); intro r9 news9 h9 tk9 hP9 F9 N9; obtain ⟨e9, kf9, tf9, e9', hf9⟩ := hP9; replace e9 := e9.symm; subst e9; subst e9'; (try dsimp only); (try k_sweep); (try k_fold)))
local macro_rules | `(tactic| walk_at "W2P") => `(tactic| (dsimp only [W2P]))
local macro_rules | `(tactic| k_mem) => `(tactic| first | assumption | exact List.mem_cons_self | (refine List.mem_cons_of_mem _ ?_; k_mem))
local macro_rules | `(tactic| walk_at "call ref") => `(tactic| (k_here; k_dflt (refine' Ctr.use ?k1 ?k2 ?k3 ?k4 ?k5 ?kK (c_alike ?ha ?hb ?p1 ?p2 ?p3 ?p4) ?kd ?ku ?_; (case k1 => k_asm); (case k2 => k_asm); (case k3 => k_asm); (case k4 => k_asm); (case k5 => k_asm); (case kK => first | exact rfl | assumption); (case kd => ktr_room); (case ku => ktr_units); (case ha => k_mem); (case hb => k_mem); (case p1 => first | assumption | omega); (case p2 => first | assumption | omega); (case p3 => first | assumption | omega); (case p4 => first | assumption | omega); k_whole); intro r9 news9 h9 tk9 hP9 F9 N9; obtain ⟨D9, t91, t92, t93, e9', e9, al9⟩ := hP9; subst e9; subst e9'; (try simp only [AllLt, and_true] at al9); (try dsimp only); (try k_sweep); (try k_fold)))
local macro_rules | `(tactic| walk_at "call ref") => `(tactic| (k_here; k_dflt (refine' Ctr.use ?k1 ?k2 ?k3 ?k4 ?k5 ?kK (c_made _ _ _ _ _ _ _ ?p1 ?p2 ?p3 ?p4 ?p5) ?kd ?ku ?_; (case k1 => k_asm); (case k2 => k_asm); (case k3 => k_asm); (case k4 => k_asm); (case k5 => k_asm); (case kK => first | exact rfl | assumption); (case kd => ktr_room); (case ku => ktr_units); (case p1 => assumption); (case p2 => first | assumption | exact And.left (by assumption)); (case p3 => first | assumption | exact And.right (by assumption)); (case p4 => assumption); (case p5 => assumption); k_whole); intro r9 news9 h9 tk9 hP9 F9 N9; obtain ⟨D9, x9, y9, t91, t92, e9', e9, al9, res9⟩ := hP9; subst e9; subst e9'; (try simp only [AllLt, and_true] at al9); (try dsimp only); (try k_sweep); (try k_fold)))

theorem mul_bd {a : Int} {p : Nat} (h : -10 ^ 8 < a ∧ a < 10 ^ 8) (hp : p ≤ 21) : -10 ^ 29 < a * 10 ^ p ∧ a * 10 ^ p < 10 ^ 29 := by
  have h1 := p10_pos p
  have h2 := p10_le hp
  have h3 : a * 10 ^ p ≤ (10 ^ 8 - 1) * 10 ^ p := Int.mul_le_mul_of_nonneg_right (by omega) (by omega)
  have h4 : (-(10 ^ 8 - 1)) * 10 ^ p ≤ a * 10 ^ p := Int.mul_le_mul_of_nonneg_right (by omega) (by omega)
  have e : (10 : Int) ^ 21 = 1000000000000000000000 := by decide
  rw [e] at h2
  omega
theorem add_sz {a0 a1 b0 b1 : Int} (ha0 : -10 ^ 8 < a0 ∧ a0 < 10 ^ 8) (hb0 : -10 ^ 8 < b0 ∧ b0 < 10 ^ 8) (ha1 : -6 ≤ a1 ∧ a1 ≤ 15) (hb1 : -6 ≤ b1 ∧ b1 ≤ 15) :
    (if a0 * 10 ^ (a1 - mn a1 b1).toNat + b0 * 10 ^ (b1 - mn a1 b1).toNat < 0 then -(a0 * 10 ^ (a1 - mn a1 b1).toNat + b0 * 10 ^ (b1 - mn a1 b1).toNat) else a0 * 10 ^ (a1 - mn a1 b1).toNat + b0 * 10 ^ (b1 - mn a1 b1).toNat) < 10 ^ 30 := by
  have h1 := mul_bd ha0 (show (a1 - mn a1 b1).toNat ≤ 21 by unfold mn; split <;> omega)
  have h2 := mul_bd hb0 (show (b1 - mn a1 b1).toNat ≤ 21 by unfold mn; split <;> omega)
  generalize a0 * 10 ^ (a1 - mn a1 b1).toNat = u at *
  generalize b0 * 10 ^ (b1 - mn a1 b1).toNat = v at *
  split <;> omega
theorem mn_bd {a1 b1 : Int} (ha1 : -6 ≤ a1 ∧ a1 ≤ 15) (hb1 : -6 ≤ b1 ∧ b1 ≤ 15) : -30 ≤ mn a1 b1 ∧ mn a1 b1 ≤ 30 := by
  unfold mn
  split <;> omega

theorem c_add {a0 a1 b0 b1 d : Int} {ta0 ta1 tb0 tb1 td : Tok} {pa pb : Addr} {news : List (Addr × Obj)} (ha : (pa, tp2 a0 ta0 a1 ta1) ∈ news) (hb : (pb, tp2 b0 tb0 b1 tb1) ∈ news)
    (ha0 : -10 ^ 8 < a0 ∧ a0 < 10 ^ 8) (hb0 : -10 ^ 8 < b0 ∧ b0 < 10 ^ 8) (ha1 : -6 ≤ a1 ∧ a1 ≤ 15) (hb1 : -6 ≤ b1 ∧ b1 ≤ 15) (hd1 : 1 ≤ d) (hd2 : d ≤ 8) :
    Ctr 4 32 79 news [.ref pa, .ref pb, .int d td] (fun r news' => ∃ D x y t1 t2, r = .ref D ∧ news' = (D, tp2 x t1 y t2) :: news ∧ AllLt D news ∧ Res (a0 * 10 ^ (a1 - mn a1 b1).toNat + b0 * 10 ^ (b1 - mn a1 b1).toNat) (mn a1 b1) d x y) := by
  unfold Ctr
  k_fill
  w_top off
  have hsz := add_sz ha0 hb0 ha1 hb1
  have hmn := mn_bd ha1 hb1
  intro w mean mg mb dp un gd cn cs a ccd cl outer A₀ base h₀ L m s Q E B F X N T hk hdp hu hret
  refine wpAny_call ?_
  k_dflt cell_enter
  k_steps
  all_goals (refine hret _ _ _ _ ⟨_, _, _, _, _, rfl, rfl, ?_, ?_⟩ (by assumption) (cb_drop (by assumption) (List.forall_mem_cons.mpr ⟨by k_mem, fun p hp => by simp only [List.mem_cons, hp, or_true]⟩)))
  · first | assumption | exact And.right (by assumption) | exact allLt_of (by assumption)
  · exact by assumption

theorem c_neg {a0 a1 : Int} {ta0 ta1 : Tok} {pa : Addr} {news : List (Addr × Obj)} (ha : (pa, tp2 a0 ta0 a1 ta1) ∈ news) :
    Ctr 1 8 65 news [.ref pa] (fun r news' => ∃ D t1 t2, r = .ref D ∧ news' = (D, tp2 (0 - a0) t1 a1 t2) :: news ∧ AllLt D news) := by
  unfold Ctr
  k_fill
  w_top off
  intro w mean mg mb dp un gd cn cs a ccd cl outer A₀ base h₀ L m s Q E B F X N T hk hdp hu hret
  refine wpAny_call ?_
  k_dflt cell_enter
  k_steps
  all_goals (refine hret _ _ _ _ ⟨_, _, _, rfl, rfl, ?_⟩ (by assumption) (by assumption))
  first | assumption | exact And.right (by assumption) | exact allLt_of (by assumption)

theorem mul_sz {a0 b0 : Int} (ha0 : -10 ^ 8 < a0 ∧ a0 < 10 ^ 8) (hb0 : -10 ^ 8 < b0 ∧ b0 < 10 ^ 8) : (if a0 * b0 < 0 then -(a0 * b0) else a0 * b0) < 10 ^ 30 := by
  have h1 : (a0 * b0).natAbs ≤ 10 ^ 8 * 10 ^ 8 := by
    rw [Int.natAbs_mul]
    exact Nat.mul_le_mul (by omega) (by omega)
  generalize a0 * b0 = u at *
  split <;> omega

theorem c_mul {a0 a1 b0 b1 d : Int} {ta0 ta1 tb0 tb1 td : Tok} {pa pb : Addr} {news : List (Addr × Obj)} (ha : (pa, tp2 a0 ta0 a1 ta1) ∈ news) (hb : (pb, tp2 b0 tb0 b1 tb1) ∈ news)
    (ha0 : -10 ^ 8 < a0 ∧ a0 < 10 ^ 8) (hb0 : -10 ^ 8 < b0 ∧ b0 < 10 ^ 8) (ha1 : -6 ≤ a1 ∧ a1 ≤ 15) (hb1 : -6 ≤ b1 ∧ b1 ≤ 15) (hd1 : 1 ≤ d) (hd2 : d ≤ 8) :
    Ctr 4 32 93 news [.ref pa, .ref pb, .int d td] (fun r news' => ∃ D x y t1 t2, r = .ref D ∧ news' = (D, tp2 x t1 y t2) :: news ∧ AllLt D news ∧ Res (a0 * b0) (a1 + b1) d x y) := by
  unfold Ctr
  k_fill
  w_top off
  have hsz := mul_sz ha0 hb0
  have hmn : -30 ≤ a1 + b1 ∧ a1 + b1 ≤ 30 := by omega
  intro w mean mg mb dp un gd cn cs a ccd cl outer A₀ base h₀ L m s Q E B F X N T hk hdp hu hret
  refine wpAny_call ?_
  k_dflt cell_enter
  k_steps
  all_goals (refine hret _ _ _ _ ⟨_, _, _, _, _, rfl, rfl, ?_, ?_⟩ (by assumption) (cb_drop (by assumption) (List.forall_mem_cons.mpr ⟨by k_mem, fun p hp => by simp only [List.mem_cons, hp, or_true]⟩)))
  · first | assumption | exact And.right (by assumption) | exact allLt_of (by assumption)
  · exact by assumption
theorem cmp_val (u v : Int) : (u > v ∧ b2i (decide (v < u)) - b2i (decide (u < v)) = 1) ∨ (u < v ∧ b2i (decide (v < u)) - b2i (decide (u < v)) = -1) ∨ (u = v ∧ b2i (decide (v < u)) - b2i (decide (u < v)) = 0) := by
  by_cases h1 : v < u
  · have h2 : ¬ u < v := by omega
    exact .inl ⟨h1, by simp [h1, h2, b2i]⟩
  · by_cases h2 : u < v
    · exact .inr (.inl ⟨h2, by simp [h1, h2, b2i]⟩)
    · exact .inr (.inr ⟨by omega, by simp [h1, h2, b2i]⟩)
theorem c_cmp {a0 a1 b0 b1 : Int} {ta0 ta1 tb0 tb1 : Tok} {pa pb : Addr} {news : List (Addr × Obj)} (ha : (pa, tp2 a0 ta0 a1 ta1) ∈ news) (hb : (pb, tp2 b0 tb0 b1 tb1) ∈ news)
    (ha0 : -10 ^ 8 < a0 ∧ a0 < 10 ^ 8) (hb0 : -10 ^ 8 < b0 ∧ b0 < 10 ^ 8) (ha1 : -6 ≤ a1 ∧ a1 ≤ 15) (hb1 : -6 ≤ b1 ∧ b1 ≤ 15) :
    Ctr 2 16 100 news [.ref pa, .ref pb] (fun r news' => news' = news ∧ ∃ v t, r = .int v t ∧ ((a0 * 10 ^ (a1 - mn a1 b1).toNat > b0 * 10 ^ (b1 - mn a1 b1).toNat ∧ v = 1) ∨ (a0 * 10 ^ (a1 - mn a1 b1).toNat < b0 * 10 ^ (b1 - mn a1 b1).toNat ∧ v = -1) ∨ (a0 * 10 ^ (a1 - mn a1 b1).toNat = b0 * 10 ^ (b1 - mn a1 b1).toNat ∧ v = 0))) := by
  unfold Ctr
  k_fill
  w_top off
  intro w mean mg mb dp un gd cn cs a ccd cl outer A₀ base h₀ L m s Q E B F X N T hk hdp hu hret
  refine wpAny_call ?_
  k_dflt cell_enter
  k_steps
  all_goals (refine hret _ _ _ _ ⟨rfl, _, _, rfl, ?_⟩ (by assumption) (cb_drop (by assumption) (fun p hp => by simp only [List.mem_cons, hp, or_true])))
  exact cmp_val _ _
end Mine

-- part C6
namespace Mine
set_option maxRecDepth 100000
set_option maxHeartbeats 8000000
local macro_rules | `(tactic| walk_at "binaryOp FloorDiv int int") => `(tactic| (k_here; (with_reducible refine floordiv_int ?kbe ?_ (Or.inl (PyProof.noPylong_of_log2 ?kbp))); (case kbe => first | decide | exact p10_ne _ | omega | fail "fdiv: ne"); (case kbp => first | decide +kernel | exact log10_lt (by omega) | exact logI_lt (by omega) (by omega) | fail "fdiv: log")))
local macro_rules | `(tactic| walk_at "binaryOp Mod int int") => `(tactic| (k_here; (with_reducible refine mod_int' ?kbe ?_); (case kbe => first | decide | exact p10_ne _ | omega | fail "mod: ne")))
local macro_rules | `(tactic| walk_at "binaryOp Pow int int") => `(tactic| (k_here; (with_reducible refine pow_int_small ?kb1 ?kb2 ?kb3 ?_); (case kb1 => omega); (case kb2 => omega); (case kb3 => decide)))
local macro_rules | `(tactic| walk_at "call ref") => `(tactic| (k_here; k_dflt (refine' Ctr.use ?k1 ?k2 ?k3 ?k4 ?k5 ?kK (c_figures _ _ _) ?kd ?ku ?_; (case k1 => k_asm); (case k2 => k_asm); (case k3 => k_asm); (case k4 => k_asm); (case k5 => k_asm); (case kK => first | exact rfl | assumption); (case kd => ktr_room); (case ku => ktr_units); k_whole); intro r9 news9 h9 tk9 hP9 F9 N9; obtain ⟨e9, kf9, tf9, e9', hf9⟩ := hP9; replace e9 := e9.symm; subst e9; subst e9'; (try dsimp only); (try k_sweep); (try k_fold)))
local macro_rules | `(tactic| walk_at "W2P") => `(tactic| (dsimp only [W2P]))
local macro_rules | `(tactic| k_mem) => `(tactic| first | assumption | exact List.mem_cons_self | (refine List.mem_cons_of_mem _ ?_; k_mem))
local macro_rules | `(tactic| walk_at "call ref") => `(tactic| (k_here; k_dflt (refine' Ctr.use ?k1 ?k2 ?k3 ?k4 ?k5 ?kK (c_add ?ha ?hb ?p1 ?p2 ?p3 ?p4 ?p5 ?p6) ?kd ?ku ?_; (case k1 => k_asm); (case k2 => k_asm); (case k3 => k_asm); (case k4 => k_asm); (case k5 => k_asm); (case kK => first | exact rfl | assumption); (case kd => ktr_room); (case ku => ktr_units); (case ha => k_mem); (case hb => k_mem); (case p1 => first | assumption | omega); (case p2 => first | assumption | omega); (case p3 => first | assumption | omega); (case p4 => first | assumption | omega); (case p5 => first | assumption | omega); (case p6 => first | assumption | omega); k_whole); intro r9 news9 h9 tk9 hP9 F9 N9; obtain ⟨D9, x9, y9, t91, t92, e9', e9, al9, res9⟩ := hP9; subst e9; subst e9'; (try simp only [AllLt, and_true] at al9); (try dsimp only); (try k_sweep); (try k_fold)))
local macro_rules | `(tactic| walk_at "call ref") => `(tactic| (k_here; k_dflt (refine' Ctr.use ?k1 ?k2 ?k3 ?k4 ?k5 ?kK (c_neg ?ha) ?kd ?ku ?_; (case k1 => k_asm); (case k2 => k_asm); (case k3 => k_asm); (case k4 => k_asm); (case k5 => k_asm); (case kK => first | exact rfl | assumption); (case kd => ktr_room); (case ku => ktr_units); (case ha => k_mem); k_whole); intro r9 news9 h9 tk9 hP9 F9 N9; obtain ⟨D9, t91, t92, e9', e9, al9⟩ := hP9; subst e9; subst e9'; (try simp only [AllLt, and_true] at al9); (try dsimp only); (try k_sweep); (try k_fold)))

local macro_rules | `(tactic| walk_at "part six") => `(tactic| skip)
theorem c_sub {a0 a1 b0 b1 d : Int} {ta0 ta1 tb0 tb1 td : Tok} {pa pb : Addr} {news : List (Addr × Obj)} (ha : (pa, tp2 a0 ta0 a1 ta1) ∈ news) (hb : (pb, tp2 b0 tb0 b1 tb1) ∈ news)
    (ha0 : -10 ^ 8 < a0 ∧ a0 < 10 ^ 8) (hb0 : -10 ^ 8 < b0 ∧ b0 < 10 ^ 8) (ha1 : -6 ≤ a1 ∧ a1 ≤ 15) (hb1 : -6 ≤ b1 ∧ b1 ≤ 15) (hd1 : 1 ≤ d) (hd2 : d ≤ 8) :
    Ctr 5 40 86 news [.ref pa, .ref pb, .int d td] (fun r news' => ∃ D x y t1 t2, r = .ref D ∧ news' = (D, tp2 x t1 y t2) :: news ∧ AllLt D news ∧ Res (a0 * 10 ^ (a1 - mn a1 b1).toNat - b0 * 10 ^ (b1 - mn a1 b1).toNat) (mn a1 b1) d x y) := by
  unfold Ctr
  k_fill
  w_top off
  have hnb : -10 ^ 8 < 0 - b0 ∧ 0 - b0 < 10 ^ 8 := by omega
  intro w mean mg mb dp un gd cn cs a ccd cl outer A₀ base h₀ L m s Q E B F X N T hk hdp hu hret
  refine wpAny_call ?_
  k_dflt cell_enter
  k_steps
  all_goals (refine hret _ _ _ _ ⟨_, _, _, _, _, rfl, rfl, ?_, ?_⟩ (by assumption) (cb_drop (by assumption) (List.forall_mem_cons.mpr ⟨by k_mem, fun p hp => by simp only [List.mem_cons, hp, or_true]⟩)))
  · first | assumption | exact And.right (by assumption) | exact allLt_of (by assumption)
  · exact (by rw [Int.sub_eq_add_neg, ← Int.neg_mul, ← Int.zero_sub]; assumption)

end Mine

-- part L1
namespace Mine
def NInv (d more0 size0 more size : Int) : Prop := size = size0 ∧ 0 ≤ more ∧ (more = 0 ∨ 10 ^ (d + more - 1).toNat ≤ size)
theorem ninv_start {d z : Int} : NInv d 0 z 0 z := ⟨rfl, by omega, .inl rfl⟩
theorem ninv_bd {d more0 z0 more z : Int} (h : NInv d more0 z0 more z) (hd : 1 ≤ d) (hz : z0 < 10 ^ 30) : 0 ≤ more ∧ more ≤ 31 := by
  obtain ⟨h1, h2, h3⟩ := h
  refine ⟨h2, ?_⟩
  rcases h3 with h3 | h3
  · omega
  · have h4 : (d + more - 1).toNat < 30 := p10_lt_of (show (10 : Int) ^ (d + more - 1).toNat < 10 ^ 30 by omega)
    omega
theorem ninv_step {d more0 z0 more z : Int} (h : NInv d more0 z0 more z) (ht : 10 ^ (d + more).toNat ≤ z) : NInv d more0 z0 (more + 1) z := by
  obtain ⟨h1, h2, h3⟩ := h
  exact ⟨h1, by omega, .inr (by rw [show d + (more + 1) - 1 = d + more by omega]; exact ht)⟩
theorem w2_end_near {h₀ : Heap} {L : Addr} {s s₂ : Shared} {m m' : Str → Option Value} {news news' : List (Addr × Obj)} {d n0 z0 a b : Int} {ta tb : Tok} {h' : Heap} {tk : Nat}
    (hs : s₂ = { s with heap := h', toks := tk }) (F : Fr h₀ L h' m') (N : News h₀ L h' news') (hn : ∀ p ∈ news, p ∈ news') (hx : m' (Str.ofString "more") = some (.int (a + 1) ta)) (hy : m' (Str.ofString "size") = some (.int b tb))
    (hr : ∀ z, z ≠ Str.ofString "more" → z ≠ Str.ofString "size" → m' z = m z) (hp : NInv d n0 z0 a b) (hb : 0 ≤ a ∧ a ≤ 31) (hm : 10 ^ (d + a).toNat ≤ b) :
    W2End h₀ L s (Str.ofString "more") (Str.ofString "size") m news (NInv d n0 z0) (fun a _ => (40 - a).toNat) a b s₂ :=
  ⟨a + 1, ta, b, tb, h', tk, m', news', hs, F, N, hn, hx, hy, hr, ninv_step hp hm, by dsimp only; omega⟩
theorem w2_end_si {x y : Str} {h₀ : Heap} {L : Addr} {s s₂ : Shared} {m m' : Str → Option Value} {news news' : List (Addr × Obj)} {n0 e0 a b : Int} {ta tb : Tok} {h' : Heap} {tk : Nat}
    (hs : s₂ = { s with heap := h', toks := tk }) (F : Fr h₀ L h' m') (N : News h₀ L h' news') (hn : ∀ p ∈ news, p ∈ news') (hx : m' x = some (.int (a.fdiv 10) ta)) (hy : m' y = some (.int (b + 1) tb))
    (hr : ∀ z, z ≠ x → z ≠ y → m' z = m z) (hp : SI n0 e0 a b) (ha : 0 < a) (hm : a.fmod 10 = 0) :
    W2End h₀ L s x y m news (SI n0 e0) (fun a _ => a.toNat) a b s₂ :=
  ⟨a.fdiv 10, ta, b + 1, tb, h', tk, m', news', hs, F, N, hn, hx, hy, hr, si_step hp hm, si_mu ha⟩

theorem near_q {z d m : Int} (h : ¬ 10 ^ (d + m).toNat ≤ z) (h0 : 0 ≤ z) (hm : 0 ≤ m) (hd : 1 ≤ d) (hd2 : d ≤ 8) : 0 ≤ z.fdiv (10 ^ m.toNat) ∧ z.fdiv (10 ^ m.toNat) < 10 ^ 8 := by
  rw [fdiv_p10]
  have h1 := p10_pos m.toNat
  refine ⟨Int.ediv_nonneg h0 (by omega), ?_⟩
  refine Int.ediv_lt_of_lt_mul h1 ?_
  have h2 : (10 : Int) ^ (d + m).toNat ≤ 10 ^ (8 + m.toNat) := p10_le (by omega)
  rw [p10_add] at h2
  have h3 : (10 : Int) ^ 8 = 100000000 := by decide
  rw [h3] at h2 ⊢
  omega
theorem near_mul {z d m u : Int} (h : ¬ 10 ^ (d + m).toNat ≤ z) (h0 : 0 ≤ z) (hm : 0 ≤ m ∧ m ≤ 31) (hd : 1 ≤ d) (hd2 : d ≤ 8) : IntMulOk (z.fdiv (10 ^ m.toNat)) u := by
  have := near_q h h0 hm.1 hd hd2
  exact IntMulOk.of_left (intBits_le_64 (by omega) (by omega))
theorem near_mul1 {z d m u : Int} (h : ¬ 10 ^ (d + m).toNat ≤ z) (h0 : 0 ≤ z) (hm : 0 ≤ m ∧ m ≤ 31) (hd : 1 ≤ d) (hd2 : d ≤ 8) : IntMulOk (z.fdiv (10 ^ m.toNat) + 1) u := by
  have := near_q h h0 hm.1 hd hd2
  exact IntMulOk.of_left (intBits_le_64 (by omega) (by omega))
theorem gaps (z : Int) (p : Nat) : z - z.fdiv (10 ^ p) * 10 ^ p = z % 10 ^ p ∧ (z.fdiv (10 ^ p) + 1) * 10 ^ p - z = 10 ^ p - z % 10 ^ p := by
  rw [fdiv_p10]
  have h1 := Int.mul_ediv_add_emod z (10 ^ p)
  rw [Int.mul_comm] at h1
  refine ⟨by omega, ?_⟩
  rw [Int.add_mul, Int.one_mul]
  omega
theorem near_a {z : Int} {p : Nat} (h : (z.fdiv (10 ^ p) + 1) * 10 ^ p - z < z - z.fdiv (10 ^ p) * 10 ^ p) : z.fdiv (10 ^ p) + 1 = rnd z p := by
  rw [(gaps z p).1, (gaps z p).2] at h
  rw [fdiv_p10, rnd, if_pos (.inl (by omega))]
theorem near_b {z : Int} {p : Nat} (h : (z.fdiv (10 ^ p) + 1) * 10 ^ p - z = z - z.fdiv (10 ^ p) * 10 ^ p) (k : (z.fdiv (10 ^ p)).fmod 2 = 1) : z.fdiv (10 ^ p) + 1 = rnd z p := by
  rw [(gaps z p).1, (gaps z p).2] at h
  rw [fdiv_p10, fmod_pos' _ (by decide)] at k
  rw [fdiv_p10, rnd, if_pos (.inr ⟨by omega, k⟩)]
theorem near_c {z : Int} {p : Nat} (h : ¬ (z.fdiv (10 ^ p) + 1) * 10 ^ p - z < z - z.fdiv (10 ^ p) * 10 ^ p) (k : (z.fdiv (10 ^ p)).fmod 2 ≠ 1) : z.fdiv (10 ^ p) = rnd z p := by
  rw [(gaps z p).1, (gaps z p).2] at h
  rw [fdiv_p10, fmod_pos' _ (by decide)] at k
  rw [fdiv_p10, rnd, if_neg (fun c => c.elim (fun c => by omega) fun c => k c.2)]
theorem near_d {z : Int} {p : Nat} (h : ¬ (z.fdiv (10 ^ p) + 1) * 10 ^ p - z < z - z.fdiv (10 ^ p) * 10 ^ p) (k : (z.fdiv (10 ^ p) + 1) * 10 ^ p - z ≠ z - z.fdiv (10 ^ p) * 10 ^ p) : z.fdiv (10 ^ p) = rnd z p := by
  rw [(gaps z p).1, (gaps z p).2] at h k
  rw [fdiv_p10, rnd, if_neg (fun c => c.elim (fun c => by omega) fun c => by omega)]
theorem near_over {d m0 z0 m z : Int} (h : NInv d m0 z0 m z) (hd : 1 ≤ d) (ht : ¬ 10 ^ (d + m).toNat ≤ z) : Over z d m.toNat := by
  obtain ⟨h1, h2, h3⟩ := h
  have e1 : d.toNat + m.toNat = (d + m).toNat := by omega
  refine ⟨by rw [e1]; omega, ?_⟩
  rcases h3 with h3 | h3
  · exact .inl (by omega)
  · refine .inr ?_
    rw [e1, show (d + m).toNat - 1 = (d + m - 1).toNat by omega]
    exact h3
theorem near_0 {c e d m a b n0 : Int} (ho : Over (if c < 0 then -c else c) d m.toNat) (hn : n0 = rnd (if c < 0 then -c else c) m.toNat) (hs : SI n0 (e + m) a b) (ha : a = 0) : Res c e d 0 0 := by
  obtain ⟨_, j, h1, _⟩ := hs
  rw [← natAbs_if] at ho hn
  refine ⟨_, ho, .inl ⟨?_, rfl, rfl⟩⟩
  rw [← hn, h1, ha, Int.zero_mul]
theorem near_1 {c e d m a b n0 x : Int} (hm : 0 ≤ m) (ho : Over (if c < 0 then -c else c) d m.toNat) (hn : n0 = rnd (if c < 0 then -c else c) m.toNat) (hs : SI n0 (e + m) a b) (ha : 0 < a) (hf : a.fmod 10 ≠ 0) (hx : x = if c > 0 then a else 0 - a) : Res c e d x b := by
  have hn0 : n0 ≠ 0 := by
    obtain ⟨_, j, h1, _⟩ := hs
    have := Int.mul_pos ha (p10_pos j)
    omega
  have hc : c ≠ 0 := by
    intro hc
    apply hn0
    subst hc
    rw [hn]
    obtain ⟨_, o⟩ := ho
    rcases o with o | o
    · rw [o, rnd_0]; rfl
    · have := p10_pos (d.toNat + m.toNat - 1)
      simp only [Int.lt_irrefl, if_false] at o
      omega
  rw [← natAbs_if] at ho hn
  rw [show e + m = e + (m.toNat : Int) by omega] at hs
  refine ⟨_, ho, .inr ⟨by rw [← hn]; exact hn0, a, by rw [← hn]; exact si_strip hs hf, ?_⟩⟩
  rw [hx]
  split <;> split <;> omega
end Mine

-- part C7
namespace Mine
set_option maxRecDepth 100000
set_option maxHeartbeats 8000000
local macro_rules | `(tactic| walk_at "binaryOp FloorDiv int int") => `(tactic| (k_here; (with_reducible refine floordiv_int ?kbe ?_ (Or.inl (PyProof.noPylong_of_log2 ?kbp))); (case kbe => first | decide | exact p10_ne _ | omega | fail "fdiv: ne"); (case kbp => first | decide +kernel | exact log10_lt (by omega) | exact logI_lt (by omega) (by omega) | fail "fdiv: log")))
local macro_rules | `(tactic| walk_at "binaryOp Mod int int") => `(tactic| (k_here; (with_reducible refine mod_int' ?kbe ?_); (case kbe => first | decide | exact p10_ne _ | omega | fail "mod: ne")))
local macro_rules | `(tactic| walk_at "binaryOp Pow int int") => `(tactic| (k_here; (with_reducible refine pow_int_small ?kb1 ?kb2 ?kb3 ?_); (case kb1 => omega); (case kb2 => omega); (case kb3 => decide)))
local macro_rules | `(tactic| walk_at "call ref") => `(tactic| (k_here; k_dflt (refine' Ctr.use ?k1 ?k2 ?k3 ?k4 ?k5 ?kK (c_figures _ _ _) ?kd ?ku ?_; (case k1 => k_asm); (case k2 => k_asm); (case k3 => k_asm); (case k4 => k_asm); (case k5 => k_asm); (case kK => first | exact rfl | assumption); (case kd => ktr_room); (case ku => ktr_units); k_whole); intro r9 news9 h9 tk9 hP9 F9 N9; obtain ⟨e9, kf9, tf9, e9', hf9⟩ := hP9; replace e9 := e9.symm; subst e9; subst e9'; (try dsimp only); (try k_sweep); (try k_fold)))
local macro_rules | `(tactic| walk_at "W2P") => `(tactic| (dsimp only [W2P]))
local macro_rules | `(tactic| k_mem) => `(tactic| first | assumption | exact List.mem_cons_self | (refine List.mem_cons_of_mem _ ?_; k_mem))
local macro_rules | `(tactic| walk_at "exec While Compare") => `(tactic| (k_here; (rename Fr _ _ _ _ => lF'); (rename News _ _ _ _ => lN'); (with_unfolding_all refine' while2 (Str.ofString "more") (Str.ofString "size") (NInv $(Lean.mkIdent `d)) (fun a _ => (40 - a).toNat) lF' lN' ?hx ?hy ?hP ?_); (case hx => (with_unfolding_all rfl)); (case hy => (with_unfolding_all rfl)); (case hP => exact ninv_start); k_whole; clear lF' lN'; intro a9 ta9 b9 tb9 h9 tk9 hP9 F9 N9; have hz9 := And.left hP9; subst hz9; have hb9 := ninv_bd hP9 $(Lean.mkIdent `hd1) $(Lean.mkIdent `hsz); (try k_fold)))
local macro_rules | `(tactic| walk_at "exec While BoolOp") => `(tactic| (k_here; (rename Fr _ _ _ _ => lF'); (rename News _ _ _ _ => lN'); (with_unfolding_all refine' while2 (Str.ofString "low") (Str.ofString "power") SI (fun a _ => a.toNat) lF' lN' ?hx ?hy ?hP ?_); (case hx => (with_unfolding_all rfl)); (case hy => (with_unfolding_all rfl)); (case hP => (refine si_start ?_; (have q9 := near_q (by assumption) (abs_nn _) (And.left (by assumption)) (by assumption) (by assumption); omega))); k_whole; clear lF' lN'; intro a9 ta9 b9 tb9 h9 tk9 hP9 F9 N9;  (try k_fold)))
local macro_rules | `(tactic| walk_at "W2End") => `(tactic| ((rename Fr _ _ _ _ => lF'); (rename News _ _ _ _ => lN'); (with_unfolding_all refine' w2_end_near rfl lF' lN' ?hn ?hx ?hy ?hr ?hp ?hb ?hm); (case hx => (with_unfolding_all rfl)); (case hy => (with_unfolding_all rfl)); (case hn => (intro p hp; simp only [List.mem_cons, hp, or_true])); (case hr => (intro z h1 h2; simp only [h1, h2, if_false])); (case hp => assumption); (case hb => assumption); (case hm => assumption)))
local macro_rules | `(tactic| walk_at "W2End") => `(tactic| ((rename Fr _ _ _ _ => lF'); (rename News _ _ _ _ => lN'); (with_unfolding_all refine' w2_end_si rfl lF' lN' ?hn ?hx ?hy ?hr ?hp ?hb ?hm); (case hx => (with_unfolding_all rfl)); (case hy => (with_unfolding_all rfl)); (case hn => (intro p hp; simp only [List.mem_cons, hp, or_true])); (case hr => (intro z h1 h2; simp only [h1, h2, if_false])); (case hp => assumption); (case hb => assumption); (case hm => assumption)))
local macro_rules | `(tactic| walk_at "binaryOp Mult int int") => `(tactic| (k_here; (with_reducible refine mul_int ?_ ?hm); (case hm => first | exact near_mul (by assumption) (abs_nn _) (by assumption) (by assumption) (by assumption) | exact near_mul1 (by assumption) (abs_nn _) (by assumption) (by assumption) (by assumption))))

theorem c_nearest {c e d : Int} {tc te td : Tok} {news : List (Addr × Obj)} (hsz : (if c < 0 then -c else c) < 10 ^ 30) (hd1 : 1 ≤ d) (hd2 : d ≤ 8) :
    Ctr 1 8 128 news [.int c tc, .int e te, .int d td] (fun r news' => ∃ D x y t1 t2, r = .ref D ∧ news' = (D, tp2 x t1 y t2) :: news ∧ AllLt D news ∧ Res c e d x y) := by
  unfold Ctr
  k_fill
  w_top off
  intro w mean mg mb dp un gd cn cs a ccd cl outer A₀ base h₀ L m s Q E B F X N T hk hdp hu hret
  refine wpAny_call ?_
  k_dflt cell_enter
  k_steps
  all_goals (
    (rename SI _ _ _ _ => hS9)
    (rename NInv _ _ _ _ _ => hN9)
    (rename (0 ≤ _ ∧ _ ≤ 31) => hb9)
    have h0 := hS9.1
    have hov := near_over hN9 hd1 (by assumption)
    first
    | (exfalso; omega)
    | ((refine hret _ _ _ _ ⟨_, _, _, _, _, rfl, rfl, ?_, ?_⟩ (by assumption) (cb_drop (by assumption) (List.forall_mem_cons.mpr ⟨by k_mem, fun p hp => by simp only [List.mem_cons, hp, or_true]⟩)))
       · first | assumption | exact And.right (by assumption) | exact And.right (And.right (by assumption)) | exact allLt_of (by assumption)
       · first
         | exact near_0 hov (by first | exact (near_a (by assumption)) | exact (near_b (by assumption) (by assumption)) | exact (near_c (by assumption) (by assumption)) | exact (near_d (by assumption) (by assumption))) hS9 (by assumption)
         | exact near_1 hb9.1 hov (by first | exact (near_a (by assumption)) | exact (near_b (by assumption) (by assumption)) | exact (near_c (by assumption) (by assumption)) | exact (near_d (by assumption) (by assumption))) hS9 (by assumption) (by assumption) (by first | rw [if_pos (by assumption)] | rw [if_neg (by assumption)])))
end Mine

-- part C8
namespace Mine
set_option maxRecDepth 100000
set_option maxHeartbeats 8000000
local macro_rules | `(tactic| walk_at "binaryOp FloorDiv int int") => `(tactic| (k_here; (with_reducible refine floordiv_int ?kbe ?_ (Or.inl (PyProof.noPylong_of_log2 ?kbp))); (case kbe => first | decide | exact p10_ne _ | omega | fail "fdiv: ne"); (case kbp => first | decide +kernel | exact log10_lt (by omega) | exact logI_lt (by omega) (by omega) | fail "fdiv: log")))
local macro_rules | `(tactic| walk_at "binaryOp Mod int int") => `(tactic| (k_here; (with_reducible refine mod_int' ?kbe ?_); (case kbe => first | decide | exact p10_ne _ | omega | fail "mod: ne")))
local macro_rules | `(tactic| walk_at "binaryOp Pow int int") => `(tactic| (k_here; (with_reducible refine pow_int_small ?kb1 ?kb2 ?kb3 ?_); (case kb1 => omega); (case kb2 => omega); (case kb3 => decide)))
local macro_rules | `(tactic| walk_at "call ref") => `(tactic| (k_here; k_dflt (refine' Ctr.use ?k1 ?k2 ?k3 ?k4 ?k5 ?kK (c_figures _ _ _) ?kd ?ku ?_; (case k1 => k_asm); (case k2 => k_asm); (case k3 => k_asm); (case k4 => k_asm); (case k5 => k_asm); (case kK => first | exact rfl | assumption); (case kd => ktr_room); (case ku => ktr_units); k_whole); intro r9 news9 h9 tk9 hP9 F9 N9; obtain ⟨e9, kf9, tf9, e9', hf9⟩ := hP9; replace e9 := e9.symm; subst e9; subst e9'; (try dsimp only); (try k_sweep); (try k_fold)))
local macro_rules | `(tactic| walk_at "W2P") => `(tactic| (dsimp only [W2P]))
local macro_rules | `(tactic| k_mem) => `(tactic| first | assumption | exact List.mem_cons_self | (refine List.mem_cons_of_mem _ ?_; k_mem))
abbrev bx (x : Int) (t : Tok) (y : Int) (u : Tok) : Obj := PySem.W.listOf #[.int x t, .int y u] 0

local macro_rules | `(tactic| k_all) => `(tactic| assumption)
theorem fm_nn (u : Int) {k : Int} (h : 0 < k) : 0 ≤ u.fmod k := by
  rw [fmod_pos' _ h]
  exact Int.emod_nonneg _ (by omega)
theorem fm_lt (u : Int) {k : Int} (h : 0 < k) : u.fmod k < k := by
  rw [fmod_pos' _ h]
  exact Int.emod_lt_of_pos _ h
theorem c_take {x y k : Int} {tx ty tk : Tok} {b : Addr} {rest : List (Addr × Obj)} (hb : ∀ p ∈ rest, p.1 ≠ b) (hk0 : 0 < k) (hk1 : k < 2 ^ 63) :
    Ctr 1 8 107 ((b, bx x tx y ty) :: rest) [.ref b, .int k tk] (fun r news' => ∃ v t x' t1 y' t2, r = .int v t ∧ 0 ≤ v ∧ v < k ∧ news' = (b, bx x' t1 y' t2) :: rest) := by
  unfold Ctr
  k_fill
  w_top off
  intro w mean mg mb dp un gd cn cs a ccd cl outer A₀ base h₀ L m s Q E B F X N T hk hdp hu hret
  refine wpAny_call ?_
  k_dflt cell_enter
  k_steps
  all_goals (refine hret _ _ _ _ ⟨_, _, _, _, _, _, rfl, fm_nn _ hk0, fm_lt _ hk0, rfl⟩ (by assumption) (by assumption))
end Mine

-- part C9
namespace Mine
set_option maxRecDepth 100000
set_option maxHeartbeats 8000000
local macro_rules | `(tactic| walk_at "binaryOp FloorDiv int int") => `(tactic| (k_here; (with_reducible refine floordiv_int ?kbe ?_ (Or.inl (PyProof.noPylong_of_log2 ?kbp))); (case kbe => first | decide | exact p10_ne _ | omega | fail "fdiv: ne"); (case kbp => first | decide +kernel | exact log10_lt (by omega) | exact logI_lt (by omega) (by omega) | fail "fdiv: log")))
local macro_rules | `(tactic| walk_at "binaryOp Mod int int") => `(tactic| (k_here; (with_reducible refine mod_int' ?kbe ?_); (case kbe => first | decide | exact p10_ne _ | omega | fail "mod: ne")))
local macro_rules | `(tactic| walk_at "binaryOp Pow int int") => `(tactic| (k_here; (with_reducible refine pow_int_small ?kb1 ?kb2 ?kb3 ?_); (case kb1 => omega); (case kb2 => omega); (case kb3 => decide)))
local macro_rules | `(tactic| walk_at "call ref") => `(tactic| (k_here; k_dflt (refine' Ctr.use ?k1 ?k2 ?k3 ?k4 ?k5 ?kK (c_figures _ _ _) ?kd ?ku ?_; (case k1 => k_asm); (case k2 => k_asm); (case k3 => k_asm); (case k4 => k_asm); (case k5 => k_asm); (case kK => first | exact rfl | assumption); (case kd => ktr_room); (case ku => ktr_units); k_whole); intro r9 news9 h9 tk9 hP9 F9 N9; obtain ⟨e9, kf9, tf9, e9', hf9⟩ := hP9; replace e9 := e9.symm; subst e9; subst e9'; (try dsimp only); (try k_sweep); (try k_fold)))
local macro_rules | `(tactic| walk_at "W2P") => `(tactic| (dsimp only [W2P]))
local macro_rules | `(tactic| k_mem) => `(tactic| first | assumption | exact List.mem_cons_self | (refine List.mem_cons_of_mem _ ?_; k_mem))
theorem p10_lt63 {p : Nat} (h : p ≤ 18) : (10 : Int) ^ p < 2 ^ 63 := by
  have h1 := p10_le h
  have h2 : (10 : Int) ^ 18 < 2 ^ 63 := by decide
  omega
theorem drawn_bd {n0 e0 a b : Int} {q : Nat} (h : SI n0 e0 a b) (ha : 0 < a) (hn : n0 < 10 ^ q) (hq : q ≤ 8) (he : -6 ≤ e0 ∧ e0 ≤ 6) : a < 10 ^ 8 ∧ -6 ≤ b ∧ b ≤ 15 := by
  obtain ⟨_, j, h1, h2⟩ := h
  have h3 := p10_le hq
  have h4 : (10 : Int) ^ j ≤ a * 10 ^ j := by
    have := Int.mul_le_mul_of_nonneg_right (show (1 : Int) ≤ a by omega) (Int.le_of_lt (p10_pos j))
    omega
  have h5 : a ≤ a * 10 ^ j := by
    have := Int.mul_le_mul_of_nonneg_left (show (1 : Int) ≤ 10 ^ j from p10_pos j) (Int.le_of_lt ha)
    omega
  have h6 : j < 8 := p10_lt_of (show (10 : Int) ^ j < 10 ^ 8 by omega)
  omega
local macro_rules | `(tactic| walk_at "call ref") => `(tactic| (k_here; k_dflt (refine' Ctr.use ?k1 ?k2 ?k3 ?k4 ?k5 ?kK (c_take ?hb ?h0 ?h1) ?kd ?ku ?_; (case k1 => k_asm); (case k2 => k_asm); (case k3 => k_asm); (case k4 => k_asm); (case k5 => k_asm); (case kK => first | exact rfl | assumption); (case kd => ktr_room); (case ku => ktr_units); (case hb => assumption); (case h0 => first | omega | exact p10_pos _); (case h1 => first | omega | exact p10_lt63 (by omega)); k_whole); intro r9 news9 h9 tk9 hP9 F9 N9; obtain ⟨v9, t9, x9, t91, y9, t92, e9', hv0, hv1, e9⟩ := hP9; subst e9; subst e9'; (try dsimp only); (try k_sweep); (try k_fold)))
local macro_rules | `(tactic| walk_at "exec While BoolOp") => `(tactic| (k_here; (rename Fr _ _ _ _ => lF'); (rename News _ _ _ _ => lN'); (with_unfolding_all refine' while2 (Str.ofString "number") (Str.ofString "power") SI (fun a _ => a.toNat) lF' lN' ?hx ?hy ?hP ?_); (case hx => (with_unfolding_all rfl)); (case hy => (with_unfolding_all rfl)); (case hP => (refine si_start ?_; omega)); k_whole; clear lF' lN'; intro a9 ta9 b9 tb9 h9 tk9 hP9 F9 N9;  (try k_fold)))
local macro_rules | `(tactic| walk_at "W2End") => `(tactic| ((rename Fr _ _ _ _ => lF'); (rename News _ _ _ _ => lN'); (with_unfolding_all refine' w2_end_si rfl lF' lN' ?hn ?hx ?hy ?hr ?hp ?hb ?hm); (case hx => (with_unfolding_all rfl)); (case hy => (with_unfolding_all rfl)); (case hn => (intro p hp; simp only [List.mem_cons, hp, or_true])); (case hr => (intro z h1 h2; simp only [h1, h2, if_false])); (case hp => assumption); (case hb => assumption); (case hm => assumption)))
local macro_rules | `(tactic| k_all) => `(tactic| assumption)
theorem c_drawn {x y d : Int} {tx ty td : Tok} {b : Addr} {rest : List (Addr × Obj)} (hb : ∀ p ∈ rest, p.1 ≠ b) (hd1 : 1 ≤ d) (hd2 : d ≤ 8) :
    Ctr 2 16 121 ((b, bx x tx y ty) :: rest) [.ref b, .int d td] (fun r news' => ∃ D X t1 Y t2 x' t1' y' t2', r = .ref D ∧ news' = (D, tp2 X t1 Y t2) :: (b, bx x' t1' y' t2') :: rest ∧ b < D ∧ AllLt D rest ∧ (-10 ^ 8 < X ∧ X < 10 ^ 8) ∧ (-6 ≤ Y ∧ Y ≤ 15)) := by
  unfold Ctr
  k_fill
  w_top off
  intro w mean mg mb dp un gd cn cs a ccd cl outer A₀ base h₀ L m s Q E B F X N T hk hdp hu hret
  refine wpAny_call ?_
  k_dflt cell_enter
  k_steps
  all_goals (
    (rename SI _ _ _ _ => hS9)
    have h0 := hS9.1
    first
    | (exfalso; omega)
    | ((refine hret _ _ _ _ ⟨_, _, _, _, _, _, _, _, _, rfl, rfl, ?_, ?_, ?_, ?_⟩ (by assumption) (by assumption))
       · (rename (_ < _ ∧ AllLt _ _) => l9)
         exact l9.1
       · (rename (_ < _ ∧ AllLt _ _) => l9)
         exact l9.2
       · first
         | omega
         | (have hz9 := drawn_bd hS9 (by assumption) (by assumption) (by omega) (by omega)
            omega)
       · first
         | omega
         | (have hz9 := drawn_bd hS9 (by assumption) (by assumption) (by omega) (by omega)
            omega)))
end Mine

-- part L2
namespace Mine
section
variable {prog : Program} {w : World} {A : Around} {E : Value → Shared → Prop} {s : Shared} {h₀ : Heap} {L D : Addr} {news : List (Addr × Obj)} {x y : Int} {t u k : Tok} {value slice : PySem.Expr} {Q : Value → Shared → Prop}
theorem tp_get {i : Int} {j : Nat} {v : Value} (N : News h₀ L s.heap news) (hm : (D, tp2 x t y u) ∈ news) (hlo : -(2 ^ 63) ≤ i) (hhi : i < 2 ^ 63) (hj : seqIndex? i 2 = some j) (hx : [Value.int x t, Value.int y u][j]? = some v) (h : Q v s)
    (hs : subscripted slice false (.ref D) (.int i k) = operate [.ref D, .int i k] (getItem (.ref D) (.int i k))) : wpAny (model prog w) A (subscriptTail value slice (.ref D) (.int i k)) Q E s :=
  item_tupleT (l := [.int x t, .int y u]) (News.isTup N hm) hlo hhi hj hx h hs
end
theorem sub_sz {a0 a1 b0 b1 : Int} (ha0 : -10 ^ 8 < a0 ∧ a0 < 10 ^ 8) (hb0 : -10 ^ 8 < b0 ∧ b0 < 10 ^ 8) (ha1 : -6 ≤ a1 ∧ a1 ≤ 15) (hb1 : -6 ≤ b1 ∧ b1 ≤ 15) :
    (if a0 * 10 ^ (a1 - mn a1 b1).toNat - b0 * 10 ^ (b1 - mn a1 b1).toNat < 0 then -(a0 * 10 ^ (a1 - mn a1 b1).toNat - b0 * 10 ^ (b1 - mn a1 b1).toNat) else a0 * 10 ^ (a1 - mn a1 b1).toNat - b0 * 10 ^ (b1 - mn a1 b1).toNat) < 10 ^ 30 := by
  have h1 := mul_bd ha0 (show (a1 - mn a1 b1).toNat ≤ 21 by unfold mn; split <;> omega)
  have h2 := mul_bd hb0 (show (b1 - mn a1 b1).toNat ≤ 21 by unfold mn; split <;> omega)
  generalize a0 * 10 ^ (a1 - mn a1 b1).toNat = u at *
  generalize b0 * 10 ^ (b1 - mn a1 b1).toNat = v at *
  split <;> omega
theorem res_lit1 : Res (12 * 10 ^ (0 - mn 0 (-1)).toNat + 5 * 10 ^ (-1 - mn 0 (-1)).toNat) (mn 0 (-1)) 2 12 0 := by
  refine ⟨1, ?_, .inr ⟨?_, 12, ⟨0, ?_, ?_, ?_⟩, ?_⟩⟩
  · unfold Over; decide
  · decide
  · decide
  · decide
  · decide
  · decide
theorem res_lit2 : Res (13 * 10 ^ (0 - mn 0 (-1)).toNat - -5 * 10 ^ (-1 - mn 0 (-1)).toNat) (mn 0 (-1)) 2 14 0 := by
  refine ⟨1, ?_, .inr ⟨?_, 14, ⟨0, ?_, ?_, ?_⟩, ?_⟩⟩
  · unfold Over; decide
  · decide
  · decide
  · decide
  · decide
  · decide
theorem c_drawnA {x y d p q : Int} {tx ty td : Tok} {b I : Addr} (hb : I ≠ b) (hd1 : 1 ≤ d) (hd2 : d ≤ 8) :
    Ctr 2 16 121 ((b, bx x tx y ty) :: (I, itR p q) :: []) [.ref b, .int d td] (fun r news' => ∃ D X t1' Y t2 x' t1'' y' t2', r = .ref D ∧ news' = (D, tp2 X t1' Y t2) :: (b, bx x' t1'' y' t2') :: (I, itR p q) :: [] ∧ b < D ∧ AllLt D ((I, itR p q) :: []) ∧ (-10 ^ 8 < X ∧ X < 10 ^ 8) ∧ (-6 ≤ Y ∧ Y ≤ 15)) :=
  c_drawn (List.forall_mem_cons.mpr ⟨hb, List.forall_mem_nil _⟩) hd1 hd2
theorem c_drawnB {x y d p q : Int} {tx ty td : Tok} {b D1 I : Addr} {X1 Y1 : Int} {t1 u1 : Tok} (hb : D1 ≠ b) (hc : I ≠ b) (hd1 : 1 ≤ d) (hd2 : d ≤ 8) :
    Ctr 2 16 121 ((b, bx x tx y ty) :: (D1, tp2 X1 t1 Y1 u1) :: (I, itR p q) :: []) [.ref b, .int d td] (fun r news' => ∃ D X t1' Y t2 x' t1'' y' t2', r = .ref D ∧ news' = (D, tp2 X t1' Y t2) :: (b, bx x' t1'' y' t2') :: (D1, tp2 X1 t1 Y1 u1) :: (I, itR p q) :: [] ∧ b < D ∧ AllLt D ((D1, tp2 X1 t1 Y1 u1) :: (I, itR p q) :: []) ∧ (-10 ^ 8 < X ∧ X < 10 ^ 8) ∧ (-6 ≤ Y ∧ Y ≤ 15)) :=
  c_drawn (List.forall_mem_cons.mpr ⟨hb, List.forall_mem_cons.mpr ⟨hc, List.forall_mem_nil _⟩⟩) hd1 hd2

def LEnd (h₀ : Heap) (L : Addr) (s₁ : Shared) (I : Addr) (it : Obj) (b : Addr) (d : Int) (s₂ : Shared) : Prop :=
  ∃ (h' : Heap) (tk : Nat) (m' : Str → Option Value) (x : Int) (tx : Tok) (y : Int) (ty td : Tok), s₂ = { s₁ with heap := h', toks := tk } ∧ Fr h₀ L h' m' ∧ News h₀ L h' ((I, it) :: (b, bx x tx y ty) :: []) ∧ m' (Str.ofString "box") = some (.ref b) ∧ m' (Str.ofString "digits") = some (.int d td)
def LPost (h₀ : Heap) (L : Addr) (s₁ : Shared) (I : Addr) (it : Obj) (b : Addr) (d : Int) (Q : Flow → Shared → Prop) (f : Flow) (s₂ : Shared) : Prop :=
  match f with
  | .ret v => Q (.ret v) s₂
  | .brk => Q .next s₂
  | _ => LEnd h₀ L s₁ I it b d s₂
theorem lend {h₀ h' : Heap} {L I b : Addr} {s₁ : Shared} {it : Obj} {d x y : Int} {tx ty td : Tok} {tk : Nat} {m' : Str → Option Value} {news : List (Addr × Obj)} (F : Fr h₀ L h' m') (N : News h₀ L h' news) (h1 : (I, it) ∈ news) (h2 : (b, bx x tx y ty) ∈ news)
    (h3 : m' (Str.ofString "box") = some (.ref b)) (h4 : m' (Str.ofString "digits") = some (.int d td)) : LEnd h₀ L s₁ I it b d { s₁ with heap := h', toks := tk } :=
  ⟨h', tk, m', x, tx, y, ty, td, rfl, F, cb_drop N (List.forall_mem_cons.mpr ⟨h1, List.forall_mem_cons.mpr ⟨h2, List.forall_mem_nil _⟩⟩), h3, h4⟩
theorem rest_inv {prog : Program} {w : World} {A : Around} {E : Value → Shared → Prop} {h₀ : Heap} {env : Env} {body : List Stmt} {Q : Flow → Shared → Prop} {s : Shared} {I b : Addr} {a d : Int} {n : Nat} (hne : b ≠ I)
    (turn : ∀ (i p q : Int) (u : Str → Option Value) (tt : Tok) (x : Int) (tx : Tok) (y : Int) (ty td : Tok) (h : Heap) (tk : Nat),
      Fr h₀ env.locals h (fun z => if z = (Str.ofString "turn") then some (.int i tt) else if z = (Str.ofString "box") then some (.ref b) else if z = (Str.ofString "digits") then some (.int d td) else u z) → News h₀ env.locals h ((I, itR p q) :: (b, bx x tx y ty) :: []) →
      wpAny (model prog w) A (execs body env) (LPost h₀ env.locals { s with heap := h, toks := tk } I (itR p q) b d Q) E { s with heap := h, toks := tk })
    (done : ∀ (m : Str → Option Value) (h : Heap) (tk : Nat), Fr h₀ env.locals h m → News h₀ env.locals h [] → Q .next { s with heap := h, toks := tk }) :
    ∀ {k i : Nat} {m : Str → Option Value} {news : List (Addr × Obj)} {x : Int} {tx : Tok} {y : Int} {ty td : Tok}, (b, bx x tx y ty) ∈ news → m (Str.ofString "box") = some (.ref b) → m (Str.ofString "digits") = some (.int d td) → RangeRest prog w A E h₀ env (Str.ofString "turn") body Q s I a n k i m news := by
  intro k
  induction k with
  | zero =>
    intro i m news x tx y ty td hm h1 h2
    exact RangeRest.zero fun h tk F N => done m h tk F (fun _ hp => nomatch hp)
  | succ k ih =>
    intro i m news x tx y ty td hm h1 h2
    refine RangeRest.succ fun t h tk F N => ?_
    have e : (fun z => if z = (Str.ofString "turn") then some (Value.int (a + (i : Int)) t) else m z) = fun z => if z = (Str.ofString "turn") then some (Value.int (a + (i : Int)) t) else if z = (Str.ofString "box") then some (.ref b) else if z = (Str.ofString "digits") then some (.int d td) else m z := by
      funext z
      by_cases c1 : z = (Str.ofString "turn")
      · rw [if_pos c1, if_pos c1]
      · rw [if_neg c1, if_neg c1]
        by_cases c2 : z = (Str.ofString "box")
        · rw [if_pos c2, c2, h1]
        · rw [if_neg c2]
          by_cases c3 : z = (Str.ofString "digits")
          · rw [if_pos c3, c3, h2]
          · rw [if_neg c3]
    rw [e] at F
    have N' : News h₀ env.locals h ((I, itR (a + ((i + 1 : Nat) : Int)) ((n : Int) - ((i + 1 : Nat) : Int))) :: (b, bx x tx y ty) :: []) :=
      cb_drop N (List.forall_mem_cons.mpr ⟨List.mem_cons_self, List.forall_mem_cons.mpr ⟨List.mem_cons_of_mem _ hm, List.forall_mem_nil _⟩⟩)
    refine wpAny_mono (turn _ _ _ m t x tx y ty td h tk F N') (fun f s₂ q => ?_) fun _ _ x => x
    have key : LEnd h₀ env.locals { s with heap := h, toks := tk } I (itR (a + ((i + 1 : Nat) : Int)) ((n : Int) - ((i + 1 : Nat) : Int))) b d s₂ →
        UnrEnd h₀ env.locals { s with heap := h, toks := tk } I (itR (a + ((i + 1 : Nat) : Int)) ((n : Int) - ((i + 1 : Nat) : Int))) (RangeRest prog w A E h₀ env (Str.ofString "turn") body Q s I a n k (i + 1)) s₂ := by
      rintro ⟨h', tk', m', x', tx', y', ty', td', e', F', N'', b1, b2⟩
      exact ⟨h', tk', m', [(b, bx x' tx' y' ty')], e', F', N'', List.forall_mem_cons.mpr ⟨hne, List.forall_mem_nil _⟩, ih List.mem_cons_self b1 b2⟩
    cases f with
    | ret v => exact q
    | brk => exact q
    | next => exact key q
    | cont => exact key q
end Mine

-- part C10
namespace Mine
set_option maxRecDepth 100000
set_option maxHeartbeats 2000000
local macro_rules | `(tactic| walk_at "binaryOp FloorDiv int int") => `(tactic| (k_here; (with_reducible refine floordiv_int ?kbe ?_ (Or.inl (PyProof.noPylong_of_log2 ?kbp))); (case kbe => first | decide | exact p10_ne _ | omega | fail "fdiv: ne"); (case kbp => first | decide +kernel | exact log10_lt (by omega) | exact logI_lt (by omega) (by omega) | fail "fdiv: log")))
local macro_rules | `(tactic| walk_at "binaryOp Mod int int") => `(tactic| (k_here; (with_reducible refine mod_int' ?kbe ?_); (case kbe => first | decide | exact p10_ne _ | omega | fail "mod: ne")))
local macro_rules | `(tactic| walk_at "binaryOp Pow int int") => `(tactic| (k_here; (with_reducible refine pow_int_small ?kb1 ?kb2 ?kb3 ?_); (case kb1 => omega); (case kb2 => omega); (case kb3 => decide)))
local macro_rules | `(tactic| walk_at "call ref") => `(tactic| (k_here; k_dflt (refine' Ctr.use ?k1 ?k2 ?k3 ?k4 ?k5 ?kK (c_figures _ _ _) ?kd ?ku ?_; (case k1 => k_asm); (case k2 => k_asm); (case k3 => k_asm); (case k4 => k_asm); (case k5 => k_asm); (case kK => first | exact rfl | assumption); (case kd => ktr_room); (case ku => ktr_units); k_whole); intro r9 news9 h9 tk9 hP9 F9 N9; obtain ⟨e9, kf9, tf9, e9', hf9⟩ := hP9; replace e9 := e9.symm; subst e9; subst e9'; (try dsimp only); (try k_sweep); (try k_fold)))
local macro_rules | `(tactic| walk_at "W2P") => `(tactic| (dsimp only [W2P]))
local macro_rules | `(tactic| k_mem) => `(tactic| first | with_reducible assumption | exact List.mem_cons_self | (refine List.mem_cons_of_mem _ ?_; k_mem))
def tlS : List Stmt → List Stmt
  | [] => []
  | _ :: r => r
def hdS : List Stmt → Stmt
  | [] => .Pass ⟨0, 0, 0, 0⟩
  | x :: _ => x
def fnBody : Stmt → List Stmt
  | .FunctionDef _ _ body .. => body
  | _ => []
def fnScope : Stmt → Scope
  | .FunctionDef _ _ _ _ _ _ scope .. => scope
  | _ => { kind := .function, names := [], isGenerator := false, isCoroutine := false, more := [] }
def forBody : Stmt → List Stmt
  | .For _ _ body .. => body
  | _ => []
noncomputable def lawS : Stmt := hdS (tlS (tlS (tlS (tlS (tlS (tlS (tlS (tlS (tlS (tlS (tlS (tlS (tlS (tlS (tlS (tlS (tlS (tlS (PySem.Challenge.pw_pq0157_01.main.body)))))))))))))))))))
noncomputable def LB : List Stmt := forBody (hdS (tlS (tlS (tlS (fnBody lawS)))))
noncomputable def LS : Scope := fnScope lawS
local macro_rules | `(tactic| walk_at "call ref") => `(tactic| (k_here; (with_reducible show wpAny _ _ (call (Value.ref 107) _) _ _ _);  k_dflt (refine' Ctr.use' ?k1 ?k2 ?k3 ?k4 ?ks ?k5 ?kK (c_take (rest := []) ?hb ?h0 ?h1) ?kd ?ku ?_; (case k1 => k_asm); (case k2 => k_asm); (case k3 => k_asm); (case k4 => k_asm); (case ks => exact List.forall_mem_cons.mpr ⟨by k_mem, List.forall_mem_nil _⟩); (case k5 => k_asm); (case kK => first | exact rfl | assumption); (case kd => ktr_room); (case ku => ktr_units); (case hb => exact List.forall_mem_nil _); (case h0 => first | omega | exact p10_pos _); (case h1 => first | omega | exact p10_lt63 (by omega)); k_whole); intro r9 news9 h9 tk9 hP9 F9 N9; obtain ⟨v9, t9, x9, t91, y9, t92, e9', hv0, hv1, e9⟩ := hP9; subst e9; subst e9'; (try dsimp only); (try k_sweep); (try k_fold)))
local macro_rules | `(tactic| walk_at "call ref") => `(tactic| (k_here; (with_reducible show wpAny _ _ (call (Value.ref 79) _) _ _ _);  k_dflt (refine' Ctr.use' ?k1 ?k2 ?k3 ?k4 ?ks ?k5 ?kK (c_add ?ha ?hb ?p1 ?p2 ?p3 ?p4 ?p5 ?p6) ?kd ?ku ?_; (case k1 => k_asm); (case k2 => k_asm); (case k3 => k_asm); (case k4 => k_asm); (case ks => exact fun _ h => h); (case k5 => k_asm); (case kK => first | exact rfl | assumption); (case kd => ktr_room); (case ku => ktr_units); (case ha => k_mem); (case hb => k_mem); (case p1 => first | with_reducible assumption | omega); (case p2 => first | with_reducible assumption | omega); (case p3 => first | with_reducible assumption | omega); (case p4 => first | with_reducible assumption | omega); (case p5 => first | with_reducible assumption | omega); (case p6 => first | with_reducible assumption | omega); k_whole); intro r9 news9 h9 tk9 hP9 F9 N9; obtain ⟨D9, x9, y9, t91, t92, e9', e9, al9, res9⟩ := hP9; subst e9; subst e9'; (try simp only [AllLt, and_true] at al9); (try dsimp only); (try k_sweep); (try k_fold)))
local macro_rules | `(tactic| walk_at "call ref") => `(tactic| (k_here; (with_reducible show wpAny _ _ (call (Value.ref 86) _) _ _ _);  k_dflt (refine' Ctr.use' ?k1 ?k2 ?k3 ?k4 ?ks ?k5 ?kK (c_sub ?ha ?hb ?p1 ?p2 ?p3 ?p4 ?p5 ?p6) ?kd ?ku ?_; (case k1 => k_asm); (case k2 => k_asm); (case k3 => k_asm); (case k4 => k_asm); (case ks => exact fun _ h => h); (case k5 => k_asm); (case kK => first | exact rfl | assumption); (case kd => ktr_room); (case ku => ktr_units); (case ha => k_mem); (case hb => k_mem); (case p1 => first | with_reducible assumption | omega); (case p2 => first | with_reducible assumption | omega); (case p3 => first | with_reducible assumption | omega); (case p4 => first | with_reducible assumption | omega); (case p5 => first | with_reducible assumption | omega); (case p6 => first | with_reducible assumption | omega); k_whole); intro r9 news9 h9 tk9 hP9 F9 N9; obtain ⟨D9, x9, y9, t91, t92, e9', e9, al9, res9⟩ := hP9; subst e9; subst e9'; (try simp only [AllLt, and_true] at al9); (try dsimp only); (try k_sweep); (try k_fold)))
local macro_rules | `(tactic| walk_at "call ref") => `(tactic| (k_here; (with_reducible show wpAny _ _ (call (Value.ref 93) _) _ _ _);  k_dflt (refine' Ctr.use' ?k1 ?k2 ?k3 ?k4 ?ks ?k5 ?kK (c_mul ?ha ?hb ?p1 ?p2 ?p3 ?p4 ?p5 ?p6) ?kd ?ku ?_; (case k1 => k_asm); (case k2 => k_asm); (case k3 => k_asm); (case k4 => k_asm); (case ks => exact fun _ h => h); (case k5 => k_asm); (case kK => first | exact rfl | assumption); (case kd => ktr_room); (case ku => ktr_units); (case ha => k_mem); (case hb => k_mem); (case p1 => first | with_reducible assumption | omega); (case p2 => first | with_reducible assumption | omega); (case p3 => first | with_reducible assumption | omega); (case p4 => first | with_reducible assumption | omega); (case p5 => first | with_reducible assumption | omega); (case p6 => first | with_reducible assumption | omega); k_whole); intro r9 news9 h9 tk9 hP9 F9 N9; obtain ⟨D9, x9, y9, t91, t92, e9', e9, al9, res9⟩ := hP9; subst e9; subst e9'; (try simp only [AllLt, and_true] at al9); (try dsimp only); (try k_sweep); (try k_fold)))
local macro_rules | `(tactic| walk_at "call ref") => `(tactic| (k_here; (with_reducible show wpAny _ _ (call (Value.ref 100) _) _ _ _);  k_dflt (refine' Ctr.use' ?k1 ?k2 ?k3 ?k4 ?ks ?k5 ?kK (c_cmp ?ha ?hb ?p1 ?p2 ?p3 ?p4) ?kd ?ku ?_; (case k1 => k_asm); (case k2 => k_asm); (case k3 => k_asm); (case k4 => k_asm); (case ks => exact fun _ h => h); (case k5 => k_asm); (case kK => first | exact rfl | assumption); (case kd => ktr_room); (case ku => ktr_units); (case ha => k_mem); (case hb => k_mem); (case p1 => first | with_reducible assumption | omega); (case p2 => first | with_reducible assumption | omega); (case p3 => first | with_reducible assumption | omega); (case p4 => first | with_reducible assumption | omega); k_whole); intro r9 news9 h9 tk9 hP9 F9 N9; obtain ⟨e9, v9, t9, e9', hv9⟩ := hP9; replace e9 := e9.symm; subst e9; subst e9'; (try dsimp only); (try k_sweep); (try k_fold)))
local macro_rules | `(tactic| walk_at "call ref") => `(tactic| (k_here; (with_reducible show wpAny _ _ (call (Value.ref 128) _) _ _ _); (rename Res _ _ _ _ _ => hR9); k_dflt (refine' Ctr.use' ?k1 ?k2 ?k3 ?k4 ?ks ?k5 ?kK (c_nearest ?p1 ?p2 ?p3) ?kd ?ku ?_; (case k1 => k_asm); (case k2 => k_asm); (case k3 => k_asm); (case k4 => k_asm); (case ks => exact fun _ h => h); (case k5 => k_asm); (case kK => first | exact rfl | assumption); (case kd => ktr_room); (case ku => ktr_units); (case p1 => with_reducible first | exact add_sz (by assumption) (by assumption) (by assumption) (by assumption) | exact sub_sz (by assumption) (by assumption) (by assumption) (by assumption) | exact mul_sz (by assumption) (by assumption)); (case p2 => first | with_reducible assumption | omega); (case p3 => first | with_reducible assumption | omega); k_whole); intro r9 news9 h9 tk9 hP9 F9 N9; obtain ⟨D9, x9, y9, t91, t92, e9', e9, al9, res9⟩ := hP9; subst e9; subst e9'; (try simp only [AllLt, and_true] at al9); (have q9 := res_uniq hR9 res9); obtain ⟨qa9, qb9⟩ := q9; subst qa9; subst qb9; (try dsimp only); (try k_sweep); (try k_fold)))
local macro_rules | `(tactic| walk_at "call ref") => `(tactic| (k_here; (with_reducible show wpAny _ _ (call (Value.ref 121) _) _ _ _);  k_dflt (refine' Ctr.use' ?k1 ?k2 ?k3 ?k4 ?ks ?k5 ?kK (c_drawnA ?hb ?p1 ?p2) ?kd ?ku ?_; (case k1 => k_asm); (case k2 => k_asm); (case k3 => k_asm); (case k4 => k_asm); (case ks => exact List.forall_mem_cons.mpr ⟨by k_mem, List.forall_mem_cons.mpr ⟨by k_mem, List.forall_mem_nil _⟩⟩); (case k5 => k_asm); (case kK => first | exact rfl | assumption); (case kd => ktr_room); (case ku => ktr_units); (case hb => k_ne); (case p1 => first | with_reducible assumption | omega); (case p2 => first | with_reducible assumption | omega); k_whole); intro r9 news9 h9 tk9 hP9 F9 N9; obtain ⟨D9, X9, t1, Y9, t2, x9, t1', y9, t2', e9', e9, lb9, al9, hX9, hY9⟩ := hP9; subst e9; subst e9'; (try simp only [AllLt, and_true] at al9); replace lb9 := ltN lb9; (try dsimp only); (try k_sweep); (try k_fold)))
local macro_rules | `(tactic| walk_at "call ref") => `(tactic| (k_here; (with_reducible show wpAny _ _ (call (Value.ref 121) _) _ _ _);  k_dflt (refine' Ctr.use' ?k1 ?k2 ?k3 ?k4 ?ks ?k5 ?kK (c_drawnB ?hb ?hc ?p1 ?p2) ?kd ?ku ?_; (case k1 => k_asm); (case k2 => k_asm); (case k3 => k_asm); (case k4 => k_asm); (case ks => exact List.forall_mem_cons.mpr ⟨by k_mem, List.forall_mem_cons.mpr ⟨by k_mem, List.forall_mem_cons.mpr ⟨by k_mem, List.forall_mem_nil _⟩⟩⟩); (case k5 => k_asm); (case kK => first | exact rfl | assumption); (case kd => ktr_room); (case ku => ktr_units); (case hb => k_ne); (case hc => k_ne); (case p1 => first | with_reducible assumption | omega); (case p2 => first | with_reducible assumption | omega); k_whole); intro r9 news9 h9 tk9 hP9 F9 N9; obtain ⟨D9, X9, t1, Y9, t2, x9, t1', y9, t2', e9', e9, lb9, al9, hX9, hY9⟩ := hP9; subst e9; subst e9'; (try simp only [AllLt, and_true] at al9); replace lb9 := ltN lb9; (try dsimp only); (try k_sweep); (try k_fold)))
local macro_rules | `(tactic| walk_at "subscriptTail Name Constant ref int") => `(tactic| (k_here; (with_reducible show wpAny _ _ (subscriptTail _ _ (Value.ref _) (Value.int _ _)) _ _ _); k_dflt (refine' tp_get ?N ?hm ?lo ?hi ?hj ?hx ?_ ?hs; (case N => k_asm); (case hm => k_mem); (case lo => decide); (case hi => decide); (case hj => rfl); (case hx => rfl); (case hs => with_unfolding_all rfl); k_whole)))

local macro_rules | `(tactic| walk_at "LPost") => `(tactic| (dsimp only [LPost]))
local macro_rules | `(tactic| walk_at "LEnd") => `(tactic| (refine' lend ?F ?N ?h1 ?h2 ?h3 ?h4; (case F => k_asm); (case N => k_asm); (case h1 => k_mem); (case h2 => k_mem); (case h3 => with_unfolding_all rfl); (case h4 => with_unfolding_all rfl)))
theorem c_turn {w : World} {mean : ExcName → Option Value} {mg mb : Str → Option Value} {h₀ : Heap} {L fa : Addr} {cdv : Value} {I b : Addr} {d : Int} (hd1 : 1 ≤ d) (hd2 : d ≤ 8) (hne : b ≠ I) (B : Below callerA h₀ [] h₀) (X : (hd.heap_39 w.params).In h₀) (T : Top hd.view_39 LO mean mg mb h₀) {E : Value → Shared → Prop} {Q : Flow → Shared → Prop} {s : Shared}
    (i p q : Int) (u : Str → Option Value) (tt : Tok) (x : Int) (tx : Tok) (y : Int) (ty td : Tok) (F : Fr h₀ L s.heap (fun z => if z = (Str.ofString "turn") then some (.int i tt) else if z = (Str.ofString "box") then some (.ref b) else if z = (Str.ofString "digits") then some (.int d td) else u z)) (N : News h₀ L s.heap ((I, itR p q) :: (b, bx x tx y ty) :: [])) :
    wpAny (model PySem.Challenge.rw_pq0157_01.row.prog w) (callerA.deeper (envOf (Str.ofString "law") LS L fa cdv)) (execs LB (envOf (Str.ofString "law") LS L fa cdv)) (LPost h₀ L s I (itR p q) b d Q) E s := by
  revert X
  k_fill
  w_top off
  intro X
  replace hne := neN hne
  dsimp only [LB, LS, lawS, fnScope, fnBody, forBody, hdS, tlS, PySem.Challenge.pw_pq0157_01]
  (try k_fold)
  k_steps
  all_goals (
    (rename ((_ ∧ _ = 1) ∨ _) => hv9)
    dsimp only [mn] at hv9
    exfalso
    omega)
end Mine

-- part C11
namespace Mine
set_option maxRecDepth 100000
set_option maxHeartbeats 8000000
local macro_rules | `(tactic| walk_at "binaryOp FloorDiv int int") => `(tactic| (k_here; (with_reducible refine floordiv_int ?kbe ?_ (Or.inl (PyProof.noPylong_of_log2 ?kbp))); (case kbe => first | decide | exact p10_ne _ | omega | fail "fdiv: ne"); (case kbp => first | decide +kernel | exact log10_lt (by omega) | exact logI_lt (by omega) (by omega) | fail "fdiv: log")))
local macro_rules | `(tactic| walk_at "binaryOp Mod int int") => `(tactic| (k_here; (with_reducible refine mod_int' ?kbe ?_); (case kbe => first | decide | exact p10_ne _ | omega | fail "mod: ne")))
local macro_rules | `(tactic| walk_at "binaryOp Pow int int") => `(tactic| (k_here; (with_reducible refine pow_int_small ?kb1 ?kb2 ?kb3 ?_); (case kb1 => omega); (case kb2 => omega); (case kb3 => decide)))
local macro_rules | `(tactic| walk_at "call ref") => `(tactic| (k_here; k_dflt (refine' Ctr.use ?k1 ?k2 ?k3 ?k4 ?k5 ?kK (c_figures _ _ _) ?kd ?ku ?_; (case k1 => k_asm); (case k2 => k_asm); (case k3 => k_asm); (case k4 => k_asm); (case k5 => k_asm); (case kK => first | exact rfl | assumption); (case kd => ktr_room); (case ku => ktr_units); k_whole); intro r9 news9 h9 tk9 hP9 F9 N9; obtain ⟨e9, kf9, tf9, e9', hf9⟩ := hP9; replace e9 := e9.symm; subst e9; subst e9'; (try dsimp only); (try k_sweep); (try k_fold)))
local macro_rules | `(tactic| walk_at "W2P") => `(tactic| (dsimp only [W2P]))
local macro_rules | `(tactic| k_mem) => `(tactic| first | with_reducible assumption | exact List.mem_cons_self | (refine List.mem_cons_of_mem _ ?_; k_mem))
local macro_rules | `(tactic| walk_at "call ref") => `(tactic| (k_here; (with_reducible show wpAny _ _ (call (Value.ref 107) _) _ _ _);  k_dflt (refine' Ctr.use' ?k1 ?k2 ?k3 ?k4 ?ks ?k5 ?kK (c_take (rest := []) ?hb ?h0 ?h1) ?kd ?ku ?_; (case k1 => k_asm); (case k2 => k_asm); (case k3 => k_asm); (case k4 => k_asm); (case ks => exact List.forall_mem_cons.mpr ⟨by k_mem, List.forall_mem_nil _⟩); (case k5 => k_asm); (case kK => first | exact rfl | assumption); (case kd => ktr_room); (case ku => ktr_units); (case hb => exact List.forall_mem_nil _); (case h0 => first | omega | exact p10_pos _); (case h1 => first | omega | exact p10_lt63 (by omega)); k_whole); intro r9 news9 h9 tk9 hP9 F9 N9; obtain ⟨v9, t9, x9, t91, y9, t92, e9', hv0, hv1, e9⟩ := hP9; subst e9; subst e9'; (try dsimp only); (try k_sweep); (try k_fold)))
local macro_rules | `(tactic| walk_at "call ref") => `(tactic| (k_here; (with_reducible show wpAny _ _ (call (Value.ref 79) _) _ _ _);  k_dflt (refine' Ctr.use' ?k1 ?k2 ?k3 ?k4 ?ks ?k5 ?kK (c_add ?ha ?hb ?p1 ?p2 ?p3 ?p4 ?p5 ?p6) ?kd ?ku ?_; (case k1 => k_asm); (case k2 => k_asm); (case k3 => k_asm); (case k4 => k_asm); (case ks => exact fun _ h => h); (case k5 => k_asm); (case kK => first | exact rfl | assumption); (case kd => ktr_room); (case ku => ktr_units); (case ha => k_mem); (case hb => k_mem); (case p1 => first | assumption | omega); (case p2 => first | assumption | omega); (case p3 => first | assumption | omega); (case p4 => first | assumption | omega); (case p5 => first | assumption | omega); (case p6 => first | assumption | omega); k_whole); intro r9 news9 h9 tk9 hP9 F9 N9; obtain ⟨D9, x9, y9, t91, t92, e9', e9, al9, res9⟩ := hP9; subst e9; subst e9'; (try simp only [AllLt, and_true] at al9); (try (have q9 := res_uniq res9 res_lit1; obtain ⟨qa9, qb9⟩ := q9; subst qa9; subst qb9)); (try (have q9 := res_uniq res9 res_lit2; obtain ⟨qa9, qb9⟩ := q9; subst qa9; subst qb9)); (try dsimp only); (try k_sweep); (try k_fold)))
local macro_rules | `(tactic| walk_at "call ref") => `(tactic| (k_here; (with_reducible show wpAny _ _ (call (Value.ref 86) _) _ _ _);  k_dflt (refine' Ctr.use' ?k1 ?k2 ?k3 ?k4 ?ks ?k5 ?kK (c_sub ?ha ?hb ?p1 ?p2 ?p3 ?p4 ?p5 ?p6) ?kd ?ku ?_; (case k1 => k_asm); (case k2 => k_asm); (case k3 => k_asm); (case k4 => k_asm); (case ks => exact fun _ h => h); (case k5 => k_asm); (case kK => first | exact rfl | assumption); (case kd => ktr_room); (case ku => ktr_units); (case ha => k_mem); (case hb => k_mem); (case p1 => first | assumption | omega); (case p2 => first | assumption | omega); (case p3 => first | assumption | omega); (case p4 => first | assumption | omega); (case p5 => first | assumption | omega); (case p6 => first | assumption | omega); k_whole); intro r9 news9 h9 tk9 hP9 F9 N9; obtain ⟨D9, x9, y9, t91, t92, e9', e9, al9, res9⟩ := hP9; subst e9; subst e9'; (try simp only [AllLt, and_true] at al9); (try (have q9 := res_uniq res9 res_lit1; obtain ⟨qa9, qb9⟩ := q9; subst qa9; subst qb9)); (try (have q9 := res_uniq res9 res_lit2; obtain ⟨qa9, qb9⟩ := q9; subst qa9; subst qb9)); (try dsimp only); (try k_sweep); (try k_fold)))
local macro_rules | `(tactic| walk_at "call ref") => `(tactic| (k_here; (with_reducible show wpAny _ _ (call (Value.ref 93) _) _ _ _);  k_dflt (refine' Ctr.use' ?k1 ?k2 ?k3 ?k4 ?ks ?k5 ?kK (c_mul ?ha ?hb ?p1 ?p2 ?p3 ?p4 ?p5 ?p6) ?kd ?ku ?_; (case k1 => k_asm); (case k2 => k_asm); (case k3 => k_asm); (case k4 => k_asm); (case ks => exact fun _ h => h); (case k5 => k_asm); (case kK => first | exact rfl | assumption); (case kd => ktr_room); (case ku => ktr_units); (case ha => k_mem); (case hb => k_mem); (case p1 => first | assumption | omega); (case p2 => first | assumption | omega); (case p3 => first | assumption | omega); (case p4 => first | assumption | omega); (case p5 => first | assumption | omega); (case p6 => first | assumption | omega); k_whole); intro r9 news9 h9 tk9 hP9 F9 N9; obtain ⟨D9, x9, y9, t91, t92, e9', e9, al9, res9⟩ := hP9; subst e9; subst e9'; (try simp only [AllLt, and_true] at al9); (try (have q9 := res_uniq res9 res_lit1; obtain ⟨qa9, qb9⟩ := q9; subst qa9; subst qb9)); (try (have q9 := res_uniq res9 res_lit2; obtain ⟨qa9, qb9⟩ := q9; subst qa9; subst qb9)); (try dsimp only); (try k_sweep); (try k_fold)))
local macro_rules | `(tactic| walk_at "call ref") => `(tactic| (k_here; (with_reducible show wpAny _ _ (call (Value.ref 100) _) _ _ _);  k_dflt (refine' Ctr.use' ?k1 ?k2 ?k3 ?k4 ?ks ?k5 ?kK (c_cmp ?ha ?hb ?p1 ?p2 ?p3 ?p4) ?kd ?ku ?_; (case k1 => k_asm); (case k2 => k_asm); (case k3 => k_asm); (case k4 => k_asm); (case ks => exact fun _ h => h); (case k5 => k_asm); (case kK => first | exact rfl | assumption); (case kd => ktr_room); (case ku => ktr_units); (case ha => k_mem); (case hb => k_mem); (case p1 => first | assumption | omega); (case p2 => first | assumption | omega); (case p3 => first | assumption | omega); (case p4 => first | assumption | omega); k_whole); intro r9 news9 h9 tk9 hP9 F9 N9; obtain ⟨e9, v9, t9, e9', hv9⟩ := hP9; replace e9 := e9.symm; subst e9; subst e9'; (try dsimp only); (try k_sweep); (try k_fold)))
local macro_rules | `(tactic| walk_at "call ref") => `(tactic| (k_here; (with_reducible show wpAny _ _ (call (Value.ref 128) _) _ _ _); (rename Res _ _ _ _ _ => hR9); k_dflt (refine' Ctr.use' ?k1 ?k2 ?k3 ?k4 ?ks ?k5 ?kK (c_nearest ?p1 ?p2 ?p3) ?kd ?ku ?_; (case k1 => k_asm); (case k2 => k_asm); (case k3 => k_asm); (case k4 => k_asm); (case ks => exact fun _ h => h); (case k5 => k_asm); (case kK => first | exact rfl | assumption); (case kd => ktr_room); (case ku => ktr_units); (case p1 => with_reducible first | exact add_sz (by assumption) (by assumption) (by assumption) (by assumption) | exact sub_sz (by assumption) (by assumption) (by assumption) (by assumption) | exact mul_sz (by assumption) (by assumption)); (case p2 => first | assumption | omega); (case p3 => first | assumption | omega); k_whole); intro r9 news9 h9 tk9 hP9 F9 N9; obtain ⟨D9, x9, y9, t91, t92, e9', e9, al9, res9⟩ := hP9; subst e9; subst e9'; (try simp only [AllLt, and_true] at al9); (have q9 := res_uniq hR9 res9); obtain ⟨qa9, qb9⟩ := q9; subst qa9; subst qb9; (try dsimp only); (try k_sweep); (try k_fold)))
local macro_rules | `(tactic| walk_at "call ref") => `(tactic| (k_here; (with_reducible show wpAny _ _ (call (Value.ref 121) _) _ _ _);  k_dflt (refine' Ctr.use' ?k1 ?k2 ?k3 ?k4 ?ks ?k5 ?kK (c_drawnA ?hb ?p1 ?p2) ?kd ?ku ?_; (case k1 => k_asm); (case k2 => k_asm); (case k3 => k_asm); (case k4 => k_asm); (case ks => exact List.forall_mem_cons.mpr ⟨by k_mem, List.forall_mem_cons.mpr ⟨by k_mem, List.forall_mem_nil _⟩⟩); (case k5 => k_asm); (case kK => first | exact rfl | assumption); (case kd => ktr_room); (case ku => ktr_units); (case hb => k_ne); (case p1 => first | assumption | omega); (case p2 => first | assumption | omega); k_whole); intro r9 news9 h9 tk9 hP9 F9 N9; obtain ⟨D9, X9, t1, Y9, t2, x9, t1', y9, t2', e9', e9, lb9, al9, hX9, hY9⟩ := hP9; subst e9; subst e9'; (try simp only [AllLt, and_true] at al9); replace lb9 := ltN lb9; (try dsimp only); (try k_sweep); (try k_fold)))
local macro_rules | `(tactic| walk_at "call ref") => `(tactic| (k_here; (with_reducible show wpAny _ _ (call (Value.ref 121) _) _ _ _);  k_dflt (refine' Ctr.use' ?k1 ?k2 ?k3 ?k4 ?ks ?k5 ?kK (c_drawnB ?hb ?hc ?p1 ?p2) ?kd ?ku ?_; (case k1 => k_asm); (case k2 => k_asm); (case k3 => k_asm); (case k4 => k_asm); (case ks => exact List.forall_mem_cons.mpr ⟨by k_mem, List.forall_mem_cons.mpr ⟨by k_mem, List.forall_mem_cons.mpr ⟨by k_mem, List.forall_mem_nil _⟩⟩⟩); (case k5 => k_asm); (case kK => first | exact rfl | assumption); (case kd => ktr_room); (case ku => ktr_units); (case hb => k_ne); (case hc => k_ne); (case p1 => first | assumption | omega); (case p2 => first | assumption | omega); k_whole); intro r9 news9 h9 tk9 hP9 F9 N9; obtain ⟨D9, X9, t1, Y9, t2, x9, t1', y9, t2', e9', e9, lb9, al9, hX9, hY9⟩ := hP9; subst e9; subst e9'; (try simp only [AllLt, and_true] at al9); replace lb9 := ltN lb9; (try dsimp only); (try k_sweep); (try k_fold)))
local macro_rules | `(tactic| walk_at "subscriptTail Name Constant ref int") => `(tactic| (k_here; (with_reducible show wpAny _ _ (subscriptTail _ _ (Value.ref _) (Value.int _ _)) _ _ _); k_dflt (refine' tp_get ?N ?hm ?lo ?hi ?hj ?hx ?_ ?hs; (case N => k_asm); (case hm => k_mem); (case lo => decide); (case hi => decide); (case hj => rfl); (case hx => rfl); (case hs => with_unfolding_all rfl); k_whole)))

local macro_rules | `(tactic| walk_at "RangeRest") => `(tactic| (with_unfolding_all (refine' rest_inv ?hne ?turn ?done ?mem ?hbox ?hdig); (case mem => k_mem); (case hbox => (with_unfolding_all rfl)); (case hdig => (with_unfolding_all rfl)); (case hne => k_ne); (case turn => exact fun i9 p9 q9 u9 tt9 x9 tx9 y9 ty9 td9 h9 tk9 F9 N9 => c_turn (by omega) (by omega) (by k_ne) (by assumption) (by assumption) (by assumption) i9 p9 q9 u9 tt9 x9 tx9 y9 ty9 td9 F9 N9); intro m9 h9 tk9 F9 N9; (try k_fold)))
theorem t1 : PySem.Challenge.rw_pq0157_01.Holds := hd (by
  k_with_none
  k_with "pyIter ref" => k_state (fun _ _ => True) "found"
  k_go0
  (with_reducible rename Heap.CodeRec _ _ _ => hcd9)
  clear hcd9
  (with_reducible rename Dflts _ _ _ _ _ _ => hD9)
  clear hD9
  (all_goals try k_fold)
  k_steps
  done)
end Mine

theorem PySem.Challenge.cw_pq0157_01_holds : PySem.Challenge.rw_pq0157_01.Holds := by
  exact Mine.t1
