import PyProof.Rows.All
import Wide.All
import OpenK.AllK
import Wide.FinOn
import Lean
import PySem.Challenge.RW_xm0575_01
set_option Elab.async false
section
open PySem PySem.W PyProof.Rows
set_option maxRecDepth 100000
set_option maxHeartbeats 8000000
namespace Mine
open_top hd for PySem.Challenge.rw_xm0575_01
end Mine
end

section
set_option maxRecDepth 100000
set_option maxHeartbeats 8000000
open PySem PySem.W PySem.Spec PySem.Calls PyProof.Rows
namespace Mine

noncomputable abbrev lo : List Str := looseW hd.view_39 [Str.ofString "LendError"]

/-- what a call of the def at f, with the ledger news and the values vs, comes to -/
def Says (d : Nat) (f : Addr) (news : List (Addr × Obj)) (vs : List Value) (R : Value → List (Addr × Obj) → Prop) : Prop :=
  ∀ (w : World) (mean : ExcName → Option Value) (mg mb : Str → Option Value) (dp un : Nat) (gd : Option (List Code)) (cn : Str) (cs : Scope) (a : Addr) (ccd : Value) (cl : List (Str × Addr)) (outer : List Env) (A₀ : Around) (base h₀ : Heap) (L : Addr) (m : Str → Option Value) (s : Shared) (Q E : Value → Shared → Prop),
    Below A₀ base outer h₀ → Fr h₀ L s.heap m → (hd.heap_39 w.params).In h₀ → News h₀ L s.heap news → Top hd.view_39 lo mean mg mb h₀ → cs.kind = .function →
    dp + d < recursionLimit → un + 8 * d < cLine →
    (∀ (r : Value) (news' : List (Addr × Obj)) (h' : Heap) (tk' : Nat), R r news' → Fr h₀ L h' m → News h₀ L h' news' → Q r { s with heap := h', toks := tk' }) →
    wpAny (model PySem.Challenge.rw_xm0575_01.row.prog w) (ktrTop dp un gd cn cs L a ccd cl outer) (call (.ref f) vs) Q E s

abbrev lst (vs : List Value) (n : Nat) : Obj := { cls := .type "list", data := .seq vs.toArray n }
end Mine
end

section
set_option maxRecDepth 100000
set_option maxHeartbeats 8000000
open PySem PySem.W PySem.Spec PySem.Calls PyProof.Rows
namespace Mine
section
variable {prog : Program} {w : World} {A : Around} {E : Value → Shared → Prop} {s : Shared} {a b : Int} {t u : Tok} {Q : Value → Shared → Prop}

theorem mod_pos (hb : 0 < b) (h : ∀ r : Int, r = a % b → 0 ≤ r → r < b → Q (.int r s.toks) { s with toks := s.toks + 1 }) : wpAny (model prog w) A (binaryOp .Mod (.int a t) (.int b u)) Q E s := by
  refine mod_int' (by omega) ?_
  rw [Int.fmod_eq_emod_of_nonneg _ (by omega)]
  exact h _ rfl (Int.emod_nonneg _ (by omega)) (Int.emod_lt_of_pos _ hb)

theorem div_pos (hb : 0 < b) (hb' : b < 1073741824) (h : ∀ r : Int, r = a / b → Q (.int r s.toks) { s with toks := s.toks + 1 }) : wpAny (model prog w) A (binaryOp .FloorDiv (.int a t) (.int b u)) Q E s := by
  refine floordiv_int (by omega) ?_ (Or.inl (PyProof.noPylong_small (by omega)))
  rw [Int.fdiv_eq_ediv_of_nonneg _ (by omega)]
  exact h _ rfl

theorem mul_by {m n : Nat} (ha : Builtin.Int.intBits a ≤ m) (hb : Builtin.Int.intBits b ≤ n) (hmn : m + n ≤ 134217728) (h : Q (.int (a * b) s.toks) { s with toks := s.toks + 1 }) : wpAny (model prog w) A (binaryOp .Mult (.int a t) (.int b u)) Q E s :=
  mul_int h (PyProof.Rows.mulOk_of_bits ha hb hmn)

theorem mul_small (hb : -18446744073709551616 < b) (hb' : b < 18446744073709551616) (h : ∀ r : Int, r = a * b → Q (.int r s.toks) { s with toks := s.toks + 1 }) : wpAny (model prog w) A (binaryOp .Mult (.int a t) (.int b u)) Q E s :=
  mul_int (h _ rfl) (PySem.IntMulOk.of_right (PySem.intBits_le_64 (by omega) (by omega)))
theorem item_gen {value slice : PySem.Expr} {l : Addr} {vs : List Value} {k : Int} {u : Tok} (hl : s.heap.IsList l vs.toArray) (h0 : 0 ≤ k) (hhi : k < vs.length) (hfit : vs.length ≤ 100) (h : ∀ v, v ∈ vs → Q v s)
    (hs : subscripted slice false (.ref l) (.int k u) = operate [.ref l, .int k u] (getItem (.ref l) (.int k u))) :
    wpAny (model prog w) A (subscriptTail value slice (.ref l) (.int k u)) Q E s := by
  have hk : k.toNat < vs.length := by omega
  exact item_litK hl h0 (by omega) (List.getElem?_eq_getElem hk) (h _ (List.getElem_mem hk)) hs
theorem len_gen {l : Addr} {vs : List Value} (hl : s.heap.IsList l vs.toArray) (hfit : vs.length ≤ 100) (h : Q (.int vs.length (s.toks + 1)) { s with toks := s.toks + 1 + 1 }) :
    wpAny (model prog w) A (call (.builtin "len") [.ref l]) Q E s :=
  len_list hl (by simp; omega) (by simpa using h)
end
end Mine
end

section
set_option maxRecDepth 100000
set_option maxHeartbeats 8000000
open PySem PySem.W PySem.Spec PySem.Calls PyProof.Rows
namespace Mine
local macro_rules | `(tactic| k_all) => `(tactic| assumption)
local macro_rules | `(tactic| walk_at "binaryOp Mod int int") => `(tactic| (k_here; (with_reducible refine mod_pos ?kb ?_); (case kb => omega); intro r9 hr9 hr9a hr9b))
local macro_rules | `(tactic| walk_at "binaryOp FloorDiv int int") => `(tactic| (k_here; (with_reducible refine div_pos ?kb ?kc ?_); (case kb => omega); (case kc => omega); intro r9 hr9))
local macro_rules | `(tactic| walk_at "binaryOp Mult int int") => `(tactic| (k_here; (with_reducible refine mul_small ?kb ?kc ?_); (case kb => omega); (case kc => omega); intro r9 hr9))
local macro_rules | `(tactic| walk_at "subscriptTail Name Constant ref int") => `(tactic| (k_here; (with_reducible show wpAny _ _ (subscriptTail _ _ (Value.ref _) (Value.int _ _)) _ _ _); (with_unfolding_all refine' item_litK ?k1 ?k2 ?k3 ?k4 ?_ ?k6; (case k1 => is_list); (case k2 => decide); (case k3 => decide); (case k4 => rfl); (case k6 => with_unfolding_all rfl); k_whole)))

theorem take_says (l : Addr) (n : Nat) (x y top : Int) (tx ty tt : Tok) (rest : List (Addr × Obj)) (hrest : ∀ p ∈ rest, p.1 ≠ l)
    (hx : 0 ≤ x) (hy0 : 0 ≤ y) (hy : y < 2147483648) (ht : 1 ≤ top) (ht' : top ≤ 100) :
    Says 1 82 ((l, lst [.int x tx, .int y ty] n) :: rest) [.ref l, .int top tt] fun r news' =>
      ∃ (f x' y' : Int) (tf tx' ty' : Tok), r = .int f tf ∧ 0 ≤ f ∧ f < top ∧ 0 ≤ x' ∧ x' ≤ x ∧ 0 ≤ y' ∧ y' < 2147483648 ∧ news' = (l, lst [.int x' tx', .int y' ty'] n) :: rest := by
  unfold Says
  k_fill
  intro w mean mg mb dp un gd cn cs a ccd cl outer A₀ base h₀ L m s Q E B F X N T hk hd hu hret
  refine wpAny_call ?_
  k_dflt cell_enter
  k_steps
  · refine' hret _ _ _ _ ?ea ?eb ?ec
    case eb => k_asm
    case ec => k_asm
    case ea =>
      subst_vars
      exact ⟨_, _, _, _, _, _, rfl, by assumption, by assumption, Int.ediv_nonneg hx (by omega), Int.ediv_le_self _ hx, hy0, hy, rfl⟩
  · refine' hret _ _ _ _ ?fa ?fb ?fc
    case fb => k_asm
    case fc => k_asm
    case fa => exact ⟨_, _, _, _, _, _, rfl, by assumption, by assumption, hx, Int.le_refl _, by assumption, by omega, rfl⟩
end Mine
end

section
set_option maxRecDepth 100000
set_option maxHeartbeats 8000000
open PySem PySem.W PySem.Spec PySem.Calls PyProof.Rows
namespace Mine
theorem Says.use {d : Nat} {f : Addr} {news : List (Addr × Obj)} {vs : List Value} {R : Value → List (Addr × Obj) → Prop} {w : World} {mean : ExcName → Option Value} {mg mb : Str → Option Value} {dp un : Nat} {gd : Option (List Code)} {cn : Str} {cs : Scope} {a : Addr} {ccd : Value} {cl : List (Str × Addr)} {outer : List Env} {A₀ : Around} {base h₀ : Heap} {L : Addr} {m : Str → Option Value} {s : Shared} {Q E : Value → Shared → Prop}
    (B : Below A₀ base outer h₀) (F : Fr h₀ L s.heap m) (X : (hd.heap_39 w.params).In h₀) (T : Top hd.view_39 lo mean mg mb h₀) (hk : cs.kind = .function) (C : Says d f news vs R) (N : News h₀ L s.heap news)
    (hd : dp + d < recursionLimit) (hu : un + 8 * d < cLine)
    (ret : ∀ (r : Value) (news' : List (Addr × Obj)) (h' : Heap) (tk' : Nat), R r news' → Fr h₀ L h' m → News h₀ L h' news' → Q r { s with heap := h', toks := tk' }) :
    wpAny (model PySem.Challenge.rw_xm0575_01.row.prog w) (ktrTop dp un gd cn cs L a ccd cl outer) (call (.ref f) vs) Q E s :=
  C w mean mg mb dp un gd cn cs a ccd cl outer A₀ base h₀ L m s Q E B F X N T hk hd hu ret

local macro_rules | `(tactic| k_all) => `(tactic| assumption)
local macro_rules | `(tactic| walk_at "call ref") => `(tactic| (k_here; k_dflt (
  refine' Says.use ?k1 ?k2 ?k3 ?k5 ?kK (take_says _ _ _ _ _ _ _ _ _ ?r1 ?r2 ?r3 ?r4 ?r5 ?r6) ?k4 ?kd ?ku ?kR
  (case k1 => k_asm)
  (case k2 => k_asm)
  (case k3 => k_asm)
  (case k5 => k_asm)
  (case kK => first | exact rfl | assumption)
  (case k4 => k_asm)
  (case kd => ktr_room)
  (case ku => ktr_units)
  (case r1 => first | assumption | k_all)
  (case r2 => assumption)
  (case r3 => assumption)
  (case r4 => assumption)
  (case r5 => first | assumption | omega | decide)
  (case r6 => first | assumption | omega | decide)
  intro r9 n9 h9 tk9 R9 F9 N9
  obtain ⟨f9, x9, y9, tf9, tx9, ty9, hr9, hf0, hf1, hx0, hx1, hy0, hy1, hn9⟩ := R9
  subst hr9
  subst hn9
  (try dsimp only)
  (try k_sweep)
  (try k_fold))))

local macro_rules | `(tactic| walk_at "call builtin:len") => `(tactic| (k_here; (with_reducible show wpAny _ _ (call (Value.builtin "len") [Value.ref _]) _ _ _); k_dflt (refine' len_gen ?k1 ?k2 ?_; (case k1 => exact News.isList (by k_asm) (by k_mem)); (case k2 => first | assumption | decide); k_whole)))
local macro_rules | `(tactic| walk_at "subscriptTail") => `(tactic| (k_here; (with_reducible show wpAny _ _ (subscriptTail _ _ (Value.ref _) (Value.int _ _)) _ _ _); (with_unfolding_all refine' item_gen ?k1 ?k2 ?k3 ?k4 ?_ ?k6; (case k1 => exact News.isList (by k_asm) (by k_dflt k_mem)); (case k2 => assumption); (case k3 => assumption); (case k4 => first | assumption | decide); (case k6 => with_unfolding_all rfl); k_whole); intro v9 hv9))

theorem one_says (l t : Addr) (n n' : Nat) (x y : Int) (tx ty : Tok) (vs : List Value) (rest : List (Addr × Obj)) (htl : t ≠ l) (hrest : ∀ p ∈ rest, p.1 ≠ l)
    (hx : 0 ≤ x) (hy0 : 0 ≤ y) (hy : y < 2147483648) (h1 : 1 ≤ vs.length) (h2 : vs.length ≤ 100) :
    Says 2 89 ((l, lst [.int x tx, .int y ty] n) :: (t, lst vs n') :: rest) [.ref l, .ref t] fun r news' =>
      ∃ (x' y' : Int) (tx' ty' : Tok), r ∈ vs ∧ 0 ≤ x' ∧ x' ≤ x ∧ 0 ≤ y' ∧ y' < 2147483648 ∧ news' = (l, lst [.int x' tx', .int y' ty'] n) :: (t, lst vs n') :: rest := by
  unfold Says
  k_fill
  intro w mean mg mb dp un gd cn cs a ccd cl outer A₀ base h₀ L m s Q E B F X N T hk hd hu hret
  refine wpAny_call ?_
  k_dflt cell_enter
  k_steps
  refine' hret _ _ _ _ ?ea ?eb ?ec
  case eb => k_asm
  case ec => k_asm
  case ea => exact ⟨_, _, _, _, by assumption, by assumption, by omega, by assumption, by assumption, rfl⟩
end Mine
end

section
local macro_rules | `(tactic| walk_at "mine pad") => `(tactic| fail)
set_option maxRecDepth 100000
set_option maxHeartbeats 8000000
open PySem PySem.W PySem.Spec PySem.Calls PyProof.Rows
namespace Mine
theorem News.pick1 {h₀ h : Heap} {L a : Addr} {o : Obj} {news : List (Addr × Obj)} (N : News h₀ L h news) (hm : (a, o) ∈ news) : News h₀ L h [(a, o)] := by
  intro p hp
  rcases List.mem_cons.mp hp with rfl | hp
  · exact N _ hm
  · cases hp
theorem News.pick2 {h₀ h : Heap} {L a b : Addr} {o o' : Obj} {news : List (Addr × Obj)} (N : News h₀ L h news) (hm : (a, o) ∈ news) (hm' : (b, o') ∈ news) : News h₀ L h [(a, o), (b, o')] := by
  intro p hp
  rcases List.mem_cons.mp hp with rfl | hp
  · exact N _ hm
  · exact News.pick1 N hm' p hp

theorem menu_bits {r : Value} {t0 t1 t2 t3 t4 t5 t6 t7 t8 t9 : Tok} (h : r ∈ [Value.int 0 t0, .int 2 t1, .int 7 t2, .int 8 t3, .int 15 t4, .int 16 t5, .int 31 t6, .int 32 t7, .int 63 t8, .int 64 t9]) : ∃ b t, r = .int b t ∧ 0 ≤ b ∧ b ≤ 64 := by
  simp only [List.mem_cons, List.not_mem_nil, or_false] at h
  rcases h with h | h | h | h | h | h | h | h | h | h <;> exact ⟨_, _, h, by decide, by decide⟩
theorem menu_sign {r : Value} {t0 t1 : Tok} (h : r ∈ [Value.int 1 t0, .int (-1) t1]) : ∃ b t, r = .int b t ∧ (b = 1 ∨ b = -1) := by
  simp only [List.mem_cons, List.not_mem_nil, or_false] at h
  rcases h with h | h
  · exact ⟨_, _, h, .inl rfl⟩
  · exact ⟨_, _, h, .inr rfl⟩
theorem pow_bound {b : Int} (h0 : 0 ≤ b) (h : b ≤ 64) : (1 : Int) ≤ 2 ^ b.toNat ∧ (2 : Int) ^ b.toNat ≤ 18446744073709551616 := by
  have h2 : b.toNat ≤ 64 := by omega
  have h3 : 2 ^ b.toNat ≤ 18446744073709551616 := Nat.pow_le_pow_right (n := 2) (by decide) h2
  have h4 : 1 ≤ 2 ^ b.toNat := Nat.one_le_two_pow
  have h5 : ((2 ^ b.toNat : Nat) : Int) = (2 : Int) ^ b.toNat := by simp
  generalize 2 ^ b.toNat = k at h3 h4 h5
  rw [← h5]
  omega
-- a call of _law_take: the pool's list, wherever it lies in the ledger; the rest of the ledger is let go
local macro_rules | `(tactic| walk_at "mine take") => `(tactic| (
  refine' Says.use ?k1 ?k2 ?k3 ?k5 ?kK (take_says _ _ _ _ _ _ _ _ [] ?r1 ?r2 ?r3 ?r4 ?r5 ?r6) ?k4 ?kd ?ku ?kR
  (case k1 => k_asm)
  (case k2 => k_asm)
  (case k3 => k_asm)
  (case k5 => k_asm)
  (case kK => first | exact rfl | assumption)
  (case k4 => exact News.pick1 (by k_asm) (by k_mem))
  (case kd => ktr_room)
  (case ku => ktr_units)
  (case r1 => exact fun _ h => nomatch h)
  (case r2 => assumption)
  (case r3 => assumption)
  (case r4 => assumption)
  (case r5 => first | assumption | omega | decide)
  (case r6 => first | assumption | omega | decide)
  intro r9 n9 h9 tk9 R9 F9 N9
  obtain ⟨f9, x9, y9, tf9, tx9, ty9, hr9, hf0, hf1, hx0, hx1, hy0, hy1, hn9⟩ := R9
  subst hr9
  subst hn9
  (try dsimp only)
  (try k_sweep)
  (try k_fold)))
local macro_rules | `(tactic| walk_at "mine one") => `(tactic| (
  refine' Says.use ?k1 ?k2 ?k3 ?k5 ?kK (one_says _ _ _ _ _ _ _ _ _ [] ?r0 ?r1 ?r2 ?r3 ?r4 ?r5 ?r6) ?k4 ?kd ?ku ?kR
  (case k1 => k_asm)
  (case k2 => k_asm)
  (case k3 => k_asm)
  (case k5 => k_asm)
  (case kK => first | exact rfl | assumption)
  (case k4 => exact News.pick2 (by k_asm) (by k_mem) (by k_mem))
  (case kd => ktr_room)
  (case ku => ktr_units)
  (case r0 => first | assumption | k_ne)
  (case r1 => exact fun _ h => nomatch h)
  (case r2 => assumption)
  (case r3 => assumption)
  (case r4 => assumption)
  (case r5 => exact Nat.le_of_ble_eq_true rfl)
  (case r6 => exact Nat.le_of_ble_eq_true rfl)
  intro r9 n9 h9 tk9 R9 F9 N9
  obtain ⟨x9, y9, tx9, ty9, hr9, hx0, hx1, hy0, hy1, hn9⟩ := R9
  subst hn9
  (try first
    | (obtain ⟨b9, tb9, hb9, hlo9, hhi9⟩ := menu_bits hr9; clear hr9; subst hb9)
    | (obtain ⟨b9, tb9, hb9, hs9⟩ := menu_sign hr9; clear hr9; subst hb9))
  (try dsimp only)
  (try k_sweep)
  (try k_fold)))
local macro_rules | `(tactic| walk_at "call ref") => `(tactic| (k_here; k_dflt first | walk_at "mine take" | walk_at "mine one"))

theorem number_says (l : Addr) (n : Nat) (x y : Int) (tx ty : Tok) (hx : 0 ≤ x) (hy0 : 0 ≤ y) (hy : y < 2147483648) :
    Says 3 117 [(l, lst [.int x tx, .int y ty] n)] [.ref l] fun r news' =>
      ∃ (v x' y' : Int) (tv tx' ty' : Tok), r = .int v tv ∧ -18446744073709551620 < v ∧ v < 18446744073709551620 ∧ 0 ≤ x' ∧ x' ≤ x ∧ 0 ≤ y' ∧ y' < 2147483648 ∧ news' = [(l, lst [.int x' tx', .int y' ty'] n)] := by
  unfold Says
  k_fill
  intro w mean mg mb dp un gd cn cs a ccd cl outer A₀ base h₀ L m s Q E B F X N T hk hd hu hret
  refine wpAny_call ?_
  k_dflt cell_enter
  k_steps
  refine' hret _ _ _ _ ?ea ?eb ?ec
  case eb => k_asm
  case ec => exact News.pick1 (by k_asm) (by k_mem)
  case ea =>
    rename ((_ : Int) = 1 ∨ _ = -1) => hs
    rename ((_ : Int) ≤ 64) => hb
    have hp := pow_bound (by assumption) hb
    generalize (2 : Int) ^ _ = P at hp ⊢
    refine ⟨_, _, _, _, _, _, rfl, ?_, ?_, by assumption, by omega, by assumption, by assumption, rfl⟩ <;> rcases hs with hs | hs <;> subst hs <;> omega
end Mine
end

section
set_option maxRecDepth 100000
set_option maxHeartbeats 8000000
open PySem PySem.W PySem.Spec PySem.Calls PyProof.Rows
namespace Mine
theorem cut_abs {a b r : Int} (hr : r = (if a < 0 then -a else a) / (if b < 0 then -b else b)) : (if (decide (a < 0) == decide (b < 0)) = true then r else 0 - r) = a.tdiv b := by
  subst hr
  by_cases h1 : a < 0 <;> by_cases h2 : b < 0
  · rw [if_pos h1, if_pos h2, if_pos (by simp [h1, h2])]
    rw [← Int.tdiv_eq_ediv_of_nonneg (by omega : 0 ≤ -a), Int.neg_tdiv, Int.tdiv_neg, Int.neg_neg]
  · rw [if_pos h1, if_neg h2, if_neg (by simp [h1, h2])]
    rw [← Int.tdiv_eq_ediv_of_nonneg (by omega : 0 ≤ -a), Int.neg_tdiv]
    omega
  · rw [if_neg h1, if_pos h2, if_neg (by simp [h1, h2])]
    rw [← Int.tdiv_eq_ediv_of_nonneg (by omega : 0 ≤ a), Int.tdiv_neg]
    omega
  · rw [if_neg h1, if_neg h2, if_pos (by simp [h1, h2])]
    rw [← Int.tdiv_eq_ediv_of_nonneg (by omega : 0 ≤ a)]
theorem cut_same {a b r : Int} (hs : (decide (a < 0) == decide (b < 0)) = true) (hr : r = (if a < 0 then -a else a) / (if b < 0 then -b else b)) : r = a.tdiv b := by
  have := cut_abs hr
  rwa [if_pos hs] at this
theorem cut_apart {a b r : Int} (hs : (decide (a < 0) == decide (b < 0)) = false) (hr : r = (if a < 0 then -a else a) / (if b < 0 then -b else b)) : 0 - r = a.tdiv b := by
  have := cut_abs hr
  rwa [if_neg (by rw [hs]; exact Bool.false_ne_true)] at this

section
variable {prog : Program} {w : World} {A : Around} {E : Value → Shared → Prop} {s : Shared} {a b : Int} {t u : Tok} {Q : Value → Shared → Prop}
theorem log2_lt {n k : Nat} (hk : 0 < k) (h : n < 2 ^ k) : n.log2 < k := by
  by_cases h0 : n = 0
  · subst h0
    simpa using hk
  · exact (Nat.log2_lt h0).mpr h
theorem div_posB (hb : 0 < b) (hb' : b < 1180591620717411303424) (h : ∀ r : Int, r = a / b → Q (.int r s.toks) { s with toks := s.toks + 1 }) : wpAny (model prog w) A (binaryOp .FloorDiv (.int a t) (.int b u)) Q E s := by
  refine floordiv_int (by omega) ?_ (Or.inl (PyProof.noPylong_of_log2 ?_))
  · rw [Int.fdiv_eq_ediv_of_nonneg _ (by omega)]
    exact h _ rfl
  · have := log2_lt (n := b.natAbs) (k := 70) (by decide) (by have : (2:Nat) ^ 70 = 1180591620717411303424 := by decide
                                                              omega)
    omega
end
theorem tdiv_facts {a b : Int} (hb : b ≠ 0) : (a.tdiv b).natAbs ≤ a.natAbs ∧ (a - a.tdiv b * b).natAbs < b.natAbs ∧ 0 ≤ (a - a.tdiv b * b) * a := by
  have e : a - a.tdiv b * b = a.tmod b := by rw [Int.tmod_def, Int.mul_comm b]
  refine ⟨by rw [Int.natAbs_tdiv]; exact Nat.div_le_self _ _, ?_, ?_⟩
  · rw [e, Int.natAbs_tmod]
    exact Nat.mod_lt _ (by omega)
  · rw [e]
    by_cases h : 0 ≤ a
    · exact Int.mul_nonneg (Int.tmod_nonneg _ h) h
    · have h2 : a.tmod b ≤ 0 := by
        have := Int.tmod_nonneg b (show 0 ≤ -a by omega)
        rw [Int.neg_tmod] at this
        omega
      exact Int.mul_nonneg_of_nonpos_of_nonpos h2 (by omega)
local macro_rules | `(tactic| walk_at "binaryOp FloorDiv int int") => `(tactic| (k_here; (with_reducible refine div_posB ?kb ?kc ?_); (case kb => (split <;> omega)); (case kc => (split <;> omega)); intro r9 hr9))
local macro_rules | `(tactic| walk_at "eval Call") => `(tactic| ((with_reducible show wpAny _ _ (eval (Expr.Call (Expr.Name _ _) _ [] _) _) _ _ _); refine Call_ ?_))
theorem cut_says (a b : Int) (ta tb : Tok) (news : List (Addr × Obj)) (hb : b ≠ 0) (hlo : -590295810358705651712 < b) (hhi : b < 590295810358705651712) :
    Says 1 61 news [.int a ta, .int b tb] fun r news' => (∃ q t, r = .int q t ∧ q = a.tdiv b ∧ q.natAbs ≤ a.natAbs ∧ (a - q * b).natAbs < b.natAbs ∧ 0 ≤ (a - q * b) * a) ∧ news' = news := by
  unfold Says
  k_fill
  intro w mean mg mb dp un gd cn cs ad ccd cl outer A₀ base h₀ L m s Q E B F X N T hk hd hu hret
  refine wpAny_call ?_
  k_dflt cell_enter
  k_steps
  · refine' hret _ news _ _ ?ea ?eb ?ec
    case eb => k_asm
    case ec => k_asm
    case ea => exact ⟨⟨_, _, congrArg (Value.int · _) (cut_same (by assumption) (by assumption)), rfl, tdiv_facts hb⟩, rfl⟩
  · refine' hret _ news _ _ ?fa ?fb ?fc
    case fb => k_asm
    case fc => k_asm
    case fa => exact ⟨⟨_, _, congrArg (Value.int · _) (cut_apart (by assumption) (by assumption)), rfl, tdiv_facts hb⟩, rfl⟩
end Mine
end

section
set_option maxRecDepth 100000
set_option maxHeartbeats 8000000
open PySem PySem.W PySem.Spec PySem.Calls PyProof.Rows
namespace Mine
section
variable {prog : Program} {w : World} {A : Around} {E : Value → Shared → Prop} {s : Shared} {a b : Int} {t u : Tok} {Q : Value → Shared → Prop}
theorem bits_le {k : Int} {n : Nat} (hn : 0 < n) (h : k.natAbs < 2 ^ n) : Builtin.Int.intBits k ≤ n := by
  unfold Builtin.Int.intBits
  split
  · exact Nat.zero_le _
  · have := log2_lt hn h
    omega
theorem mul_mid (ha : a.natAbs < 1180591620717411303424) (hb : b.natAbs < 1180591620717411303424) (h : ∀ r : Int, r = a * b → Q (.int r s.toks) { s with toks := s.toks + 1 }) : wpAny (model prog w) A (binaryOp .Mult (.int a t) (.int b u)) Q E s :=
  mul_by (bits_le (n := 70) (by decide) ha) (bits_le (n := 70) (by decide) hb) (by decide) (h _ rfl)
end
local macro_rules | `(tactic| walk_at "mine enter") => `(tactic| (refine' code_def ?k1 ?k2 ?k3 ?k4 ?k5 ?kA ?kF ?kK ?k6 ?k7 ?k8 ?k9 ?kB ?_ ?c2 ?c3 ?c4 ?c5; (case kA => exact rfl); (case kF => exact rfl); (case kK => first | exact rfl | assumption); (case k1 => k_asm); (case k2 => k_asm); (case k3 => k_asm); (case k4 => k_asm); (case k5 => k_asm); (case k6 => k_is); (case k7 => k_is); (case k8 => ktr_room); (case k9 => first | exact BindsTo.of_eq rfl | exact binds_K (by k_in) rfl (by k_is) rfl rfl rfl); (case c5 => decide); (case kB => exact locs rfl); (case c2 => exact rfl); (case c3 => exact rfl); (case c4 => exact rfl); k_whole; intro g' L' h' FG' F' N' B' X' T'; (try dsimp only); (try k_lift B'); (try k_fold)))
local macro_rules | `(tactic| walk_at "mine enterC") => `(tactic| (refine' code_defC ?k1 ?k2 ?k3 ?k4 ?k5 ?kA ?kF ?kK ?k6 ?k7 ?k8 ?k9 ?kB ?kD ?_ ?c2 ?c3 ?c4; (case kA => exact rfl); (case kF => exact rfl); (case kK => first | exact rfl | assumption); (case k1 => k_asm); (case k2 => k_asm); (case k3 => k_asm); (case k4 => k_asm); (case k5 => k_asm); (case k6 => k_is); (case k7 => k_is); (case k8 => ktr_room); (case k9 => first | exact BindsTo.of_eq rfl | exact binds_K (by k_in) rfl (by k_is) rfl rfl rfl); (case kB => exact rfl); (case kD => decide +kernel); (case c2 => exact rfl); (case c3 => exact rfl); (case c4 => exact rfl); k_whole; intro g' L' h' tk' cells' FG' F' N' Y' B' X' T' l1; (try k_lt l1); k_cells Y'; (try simp only [List.cons_append, List.nil_append] at N'); (try dsimp only); (try k_lift B'); (try k_fold)))
local macro_rules | `(tactic| walk_at "eval Call") => `(tactic| k_dflt (refine Call_ ?_))
local macro_rules | `(tactic| walk_at "ite") => `(tactic| first
  | (refine ite_pos ?kite ?_; (case kite => first | assumption | (simp only [beq_iff_eq, bne_iff_ne, decide_eq_true_eq, Bool.not_eq_true', beq_eq_false_iff_ne, decide_eq_false_iff_not] ; omega)))
  | (refine ite_neg ?kite ?_; (case kite => first | assumption | (simp only [beq_iff_eq, bne_iff_ne, decide_eq_true_eq, Bool.not_eq_true', beq_eq_false_iff_ne, decide_eq_false_iff_not] ; omega))))
local macro_rules | `(tactic| walk_at "binaryOp Mult int int") => `(tactic| (k_here; (with_reducible refine mul_mid ?kb ?kc ?_); (case kb => omega); (case kc => omega); intro r9 hr9))
local macro_rules | `(tactic| walk_at "mine cut") => `(tactic| (
  refine' Says.use ?k1 ?k2 ?k3 ?k5 ?kK (cut_says _ _ _ _ _ ?r1 ?r2 ?r3) ?k4 ?kd ?ku ?kR
  (case k1 => k_asm)
  (case k2 => k_asm)
  (case k3 => k_asm)
  (case k5 => k_asm)
  (case kK => first | exact rfl | assumption)
  (case k4 => k_asm)
  (case kd => ktr_room)
  (case ku => ktr_units)
  (case r1 => first | assumption | omega)
  (case r2 => omega)
  (case r3 => omega)
  intro r9 n9 h9 tk9 R9 F9 N9
  obtain ⟨⟨q9, tq9, hr9, hq9, hf1, hf2, hf3⟩, hn9⟩ := R9
  subst hr9
  subst hn9
  (try dsimp only)
  (try k_sweep)
  (try k_fold)))
local macro_rules | `(tactic| walk_at "call ref") => `(tactic| (k_here; k_dflt (first | walk_at "mine cut" | (refine wpAny_call ?_; walk_at "mine enter"))))
theorem right_div (a b : Int) (to ta tb : Tok) (news : List (Addr × Obj)) (ha : a.natAbs < 18446744073709551620) (hb0 : b ≠ 0) (hb : b.natAbs < 18446744073709551620) :
    Says 6 122 news [.str (Str.ofString "/") to, .int a ta, .int b tb] fun r news' => r = .bool true ∧ ∀ p ∈ news, p ∈ news' := by
  unfold Says
  k_fill
  intro w mean mg mb dp un gd cn cs ad ccd cl outer A₀ base h₀ L m s Q E B F X N T hk hd hu hret
  refine wpAny_call ?_
  k_dflt walk_at "mine enterC"
  k_steps
  · refine' hret _ _ _ _ ?ea ?eb ?ec
    case eb => k_asm
    case ec => k_asm
    case ea =>
      refine ⟨?_, fun p hp => by repeat (first | exact hp | apply List.mem_cons_of_mem)⟩
      subst_vars
      exact congrArg Value.bool (beq_self_eq_true _)
  · exfalso
    subst_vars
    contradiction
end Mine
end

section
local macro_rules | `(tactic| walk_at "mine pad") => `(tactic| fail)
set_option maxRecDepth 100000
set_option maxHeartbeats 8000000
open PySem PySem.W PySem.Spec PySem.Calls PyProof.Rows
namespace Mine
section
variable {prog : Program} {w : World} {A : Around} {E : Value → Shared → Prop} {s : Shared} {a b : Int} {t u : Tok} {Q : Value → Shared → Prop}
end
local macro_rules | `(tactic| walk_at "mine enter") => `(tactic| (refine' code_def ?k1 ?k2 ?k3 ?k4 ?k5 ?kA ?kF ?kK ?k6 ?k7 ?k8 ?k9 ?kB ?_ ?c2 ?c3 ?c4 ?c5; (case kA => exact rfl); (case kF => exact rfl); (case kK => first | exact rfl | assumption); (case k1 => k_asm); (case k2 => k_asm); (case k3 => k_asm); (case k4 => k_asm); (case k5 => k_asm); (case k6 => k_is); (case k7 => k_is); (case k8 => ktr_room); (case k9 => first | exact BindsTo.of_eq rfl | exact binds_K (by k_in) rfl (by k_is) rfl rfl rfl); (case c5 => decide); (case kB => exact locs rfl); (case c2 => exact rfl); (case c3 => exact rfl); (case c4 => exact rfl); k_whole; intro g' L' h' FG' F' N' B' X' T'; (try dsimp only); (try k_lift B'); (try k_fold)))
local macro_rules | `(tactic| walk_at "mine enterC") => `(tactic| (refine' code_defC ?k1 ?k2 ?k3 ?k4 ?k5 ?kA ?kF ?kK ?k6 ?k7 ?k8 ?k9 ?kB ?kD ?_ ?c2 ?c3 ?c4; (case kA => exact rfl); (case kF => exact rfl); (case kK => first | exact rfl | assumption); (case k1 => k_asm); (case k2 => k_asm); (case k3 => k_asm); (case k4 => k_asm); (case k5 => k_asm); (case k6 => k_is); (case k7 => k_is); (case k8 => ktr_room); (case k9 => first | exact BindsTo.of_eq rfl | exact binds_K (by k_in) rfl (by k_is) rfl rfl rfl); (case kB => exact rfl); (case kD => decide +kernel); (case c2 => exact rfl); (case c3 => exact rfl); (case c4 => exact rfl); k_whole; intro g' L' h' tk' cells' FG' F' N' Y' B' X' T' l1; (try k_lt l1); k_cells Y'; (try simp only [List.cons_append, List.nil_append] at N'); (try dsimp only); (try k_lift B'); (try k_fold)))
local macro_rules | `(tactic| walk_at "eval Call") => `(tactic| k_dflt (refine Call_ ?_))
local macro_rules | `(tactic| walk_at "ite") => `(tactic| first
  | (refine ite_pos ?kite ?_; (case kite => first | assumption | (simp only [beq_iff_eq, bne_iff_ne, decide_eq_true_eq, Bool.not_eq_true', beq_eq_false_iff_ne, decide_eq_false_iff_not] ; omega)))
  | (refine ite_neg ?kite ?_; (case kite => first | assumption | (simp only [beq_iff_eq, bne_iff_ne, decide_eq_true_eq, Bool.not_eq_true', beq_eq_false_iff_ne, decide_eq_false_iff_not] ; omega))))
local macro_rules | `(tactic| walk_at "binaryOp Mult int int") => `(tactic| (k_here; (with_reducible refine mul_mid ?kb ?kc ?_); (case kb => omega); (case kc => omega); intro r9 hr9))
local macro_rules | `(tactic| walk_at "mine cut") => `(tactic| (
  refine' Says.use ?k1 ?k2 ?k3 ?k5 ?kK (cut_says _ _ _ _ _ ?r1 ?r2 ?r3) ?k4 ?kd ?ku ?kR
  (case k1 => k_asm)
  (case k2 => k_asm)
  (case k3 => k_asm)
  (case k5 => k_asm)
  (case kK => first | exact rfl | assumption)
  (case k4 => k_asm)
  (case kd => ktr_room)
  (case ku => ktr_units)
  (case r1 => first | assumption | omega)
  (case r2 => omega)
  (case r3 => omega)
  intro r9 n9 h9 tk9 R9 F9 N9
  obtain ⟨⟨q9, tq9, hr9, hq9, hf1, hf2, hf3⟩, hn9⟩ := R9
  subst hr9
  subst hn9
  (try dsimp only)
  (try k_sweep)
  (try k_fold)))
local macro_rules | `(tactic| walk_at "call ref") => `(tactic| (k_here; k_dflt (first | walk_at "mine cut" | (refine wpAny_call ?_; walk_at "mine enter"))))
theorem right_rem (a b : Int) (to ta tb : Tok) (news : List (Addr × Obj)) (ha : a.natAbs < 18446744073709551620) (hb0 : b ≠ 0) (hb : b.natAbs < 18446744073709551620) :
    Says 6 122 news [.str (Str.ofString "%") to, .int a ta, .int b tb] fun r news' => r = .bool true ∧ ∀ p ∈ news, p ∈ news' := by
  unfold Says
  k_fill
  intro w mean mg mb dp un gd cn cs ad ccd cl outer A₀ base h₀ L m s Q E B F X N T hk hd hu hret
  refine wpAny_call ?_
  k_dflt walk_at "mine enterC"
  k_steps
  · refine' hret _ _ _ _ ?ea ?eb ?ec
    case eb => k_asm
    case ec => k_asm
    case ea =>
      refine ⟨?_, fun p hp => by repeat (first | exact hp | apply List.mem_cons_of_mem)⟩
      subst_vars
      exact congrArg Value.bool (beq_self_eq_true _)
  · exfalso
    subst_vars
    have e := Int.mul_comm b (a.tdiv b)
    simp only [e] at *
    contradiction
  · exfalso
    subst_vars
    have e := Int.mul_comm b (a.tdiv b)
    omega
end Mine
end

section
set_option maxRecDepth 100000
set_option maxHeartbeats 8000000
open PySem PySem.W PySem.Spec PySem.Calls PyProof.Rows
namespace Mine
local macro_rules | `(tactic| walk_at "mine enter") => `(tactic| (refine' code_def ?k1 ?k2 ?k3 ?k4 ?k5 ?kA ?kF ?kK ?k6 ?k7 ?k8 ?k9 ?kB ?_ ?c2 ?c3 ?c4 ?c5; (case kA => exact rfl); (case kF => exact rfl); (case kK => first | exact rfl | assumption); (case k1 => k_asm); (case k2 => k_asm); (case k3 => k_asm); (case k4 => k_asm); (case k5 => k_asm); (case k6 => k_is); (case k7 => k_is); (case k8 => ktr_room); (case k9 => first | exact BindsTo.of_eq rfl | exact binds_K (by k_in) rfl (by k_is) rfl rfl rfl); (case c5 => decide); (case kB => exact locs rfl); (case c2 => exact rfl); (case c3 => exact rfl); (case c4 => exact rfl); k_whole; intro g' L' h' FG' F' N' B' X' T'; (try dsimp only); (try k_lift B'); (try k_fold)))
local macro_rules | `(tactic| walk_at "mine enterC") => `(tactic| (refine' code_defC ?k1 ?k2 ?k3 ?k4 ?k5 ?kA ?kF ?kK ?k6 ?k7 ?k8 ?k9 ?kB ?kD ?_ ?c2 ?c3 ?c4; (case kA => exact rfl); (case kF => exact rfl); (case kK => first | exact rfl | assumption); (case k1 => k_asm); (case k2 => k_asm); (case k3 => k_asm); (case k4 => k_asm); (case k5 => k_asm); (case k6 => k_is); (case k7 => k_is); (case k8 => ktr_room); (case k9 => first | exact BindsTo.of_eq rfl | exact binds_K (by k_in) rfl (by k_is) rfl rfl rfl); (case kB => exact rfl); (case kD => decide +kernel); (case c2 => exact rfl); (case c3 => exact rfl); (case c4 => exact rfl); k_whole; intro g' L' h' tk' cells' FG' F' N' Y' B' X' T' l1; (try k_lt l1); k_cells Y'; (try simp only [List.cons_append, List.nil_append] at N'); (try dsimp only); (try k_lift B'); (try k_fold)))
local macro_rules | `(tactic| walk_at "eval Call") => `(tactic| k_dflt (refine Call_ ?_))
local macro_rules | `(tactic| walk_at "ite") => `(tactic| first
  | (refine ite_pos ?kite ?_; (case kite => first | assumption | (simp only [beq_iff_eq, bne_iff_ne, decide_eq_true_eq, Bool.not_eq_true', beq_eq_false_iff_ne, decide_eq_false_iff_not] ; omega)))
  | (refine ite_neg ?kite ?_; (case kite => first | assumption | (simp only [beq_iff_eq, bne_iff_ne, decide_eq_true_eq, Bool.not_eq_true', beq_eq_false_iff_ne, decide_eq_false_iff_not] ; omega))))
local macro_rules | `(tactic| walk_at "binaryOp Mult int int") => `(tactic| (k_here; (with_reducible refine mul_mid ?kb ?kc ?_); (case kb => omega); (case kc => omega); intro r9 hr9))
local macro_rules | `(tactic| walk_at "mine cut") => `(tactic| (
  refine' Says.use ?k1 ?k2 ?k3 ?k5 ?kK (cut_says _ _ _ _ _ ?r1 ?r2 ?r3) ?k4 ?kd ?ku ?kR
  (case k1 => k_asm)
  (case k2 => k_asm)
  (case k3 => k_asm)
  (case k5 => k_asm)
  (case kK => first | exact rfl | assumption)
  (case k4 => k_asm)
  (case kd => ktr_room)
  (case ku => ktr_units)
  (case r1 => first | assumption | omega)
  (case r2 => omega)
  (case r3 => omega)
  intro r9 n9 h9 tk9 R9 F9 N9
  obtain ⟨⟨q9, tq9, hr9, hq9, hf1, hf2, hf3⟩, hn9⟩ := R9
  subst hr9
  subst hn9
  (try dsimp only)
  (try k_sweep)
  (try k_fold)))
local macro_rules | `(tactic| walk_at "call ref") => `(tactic| (k_here; k_dflt (first | walk_at "mine cut" | (refine wpAny_call ?_; walk_at "mine enter"))))
theorem right_add (a b : Int) (to ta tb : Tok) (news : List (Addr × Obj)) :
    Says 6 122 news [.str (Str.ofString "+") to, .int a ta, .int b tb] fun r news' => r = .bool true ∧ ∀ p ∈ news, p ∈ news' := by
  unfold Says
  k_fill
  intro w mean mg mb dp un gd cn cs ad ccd cl outer A₀ base h₀ L m s Q E B F X N T hk hd hu hret
  refine wpAny_call ?_
  k_dflt walk_at "mine enterC"
  k_steps
  refine' hret _ _ _ _ ?ea ?eb ?ec
  case eb => k_asm
  case ec => k_asm
  case ea =>
    refine ⟨?_, fun p hp => by repeat (first | exact hp | apply List.mem_cons_of_mem)⟩
    exact congrArg Value.bool (by simp)
theorem right_sub (a b : Int) (to ta tb : Tok) (news : List (Addr × Obj)) :
    Says 6 122 news [.str (Str.ofString "-") to, .int a ta, .int b tb] fun r news' => r = .bool true ∧ ∀ p ∈ news, p ∈ news' := by
  unfold Says
  k_fill
  intro w mean mg mb dp un gd cn cs ad ccd cl outer A₀ base h₀ L m s Q E B F X N T hk hd hu hret
  refine wpAny_call ?_
  k_dflt walk_at "mine enterC"
  k_steps
  refine' hret _ _ _ _ ?ea ?eb ?ec
  case eb => k_asm
  case ec => k_asm
  case ea =>
    refine ⟨?_, fun p hp => by repeat (first | exact hp | apply List.mem_cons_of_mem)⟩
    exact congrArg Value.bool (by rw [beq_iff_eq]; omega)
theorem right_div0 (a : Int) (to ta tb : Tok) (news : List (Addr × Obj)) :
    Says 6 122 news [.str (Str.ofString "/") to, .int a ta, .int 0 tb] fun r news' => r = .bool true ∧ ∀ p ∈ news, p ∈ news' := by
  unfold Says
  k_fill
  intro w mean mg mb dp un gd cn cs ad ccd cl outer A₀ base h₀ L m s Q E B F X N T hk hd hu hret
  refine wpAny_call ?_
  k_dflt walk_at "mine enterC"
  k_steps
  refine' hret _ _ _ _ ?ea ?eb ?ec
  case eb => k_asm
  case ec => k_asm
  case ea =>
    refine ⟨?_, fun p hp => by repeat (first | exact hp | apply List.mem_cons_of_mem)⟩
    rfl
theorem right_rem0 (a : Int) (to ta tb : Tok) (news : List (Addr × Obj)) :
    Says 6 122 news [.str (Str.ofString "%") to, .int a ta, .int 0 tb] fun r news' => r = .bool true ∧ ∀ p ∈ news, p ∈ news' := by
  unfold Says
  k_fill
  intro w mean mg mb dp un gd cn cs ad ccd cl outer A₀ base h₀ L m s Q E B F X N T hk hd hu hret
  refine wpAny_call ?_
  k_dflt walk_at "mine enterC"
  k_steps
  refine' hret _ _ _ _ ?ea ?eb ?ec
  case eb => k_asm
  case ec => k_asm
  case ea =>
    refine ⟨?_, fun p hp => by repeat (first | exact hp | apply List.mem_cons_of_mem)⟩
    rfl
end Mine
end

section
set_option maxRecDepth 100000
set_option maxHeartbeats 8000000
open PySem PySem.W PySem.Spec PySem.Calls PyProof.Rows
namespace Mine
section
variable {prog : Program} {w : World} {A : Around} {E : Value → Shared → Prop} {s : Shared} {a b : Int} {t u : Tok} {Q : Value → Shared → Prop}
theorem pow70 {n : Nat} (h : n ≤ 70) : (1 : Int) ≤ 2 ^ n ∧ (2 : Int) ^ n ≤ 1180591620717411303424 := by
  have h3 : 2 ^ n ≤ 1180591620717411303424 := Nat.pow_le_pow_right (n := 2) (by decide) h
  have h4 : 1 ≤ 2 ^ n := Nat.one_le_two_pow
  have h5 : ((2 ^ n : Nat) : Int) = (2 : Int) ^ n := by simp
  generalize 2 ^ n = k at h3 h4 h5
  rw [← h5]
  omega
theorem pow2 (h0 : 0 ≤ b) (h1 : b ≤ 70) (h : ∀ r : Int, r = 2 ^ b.toNat → 1 ≤ r → r ≤ 1180591620717411303424 → Q (.int r s.toks) { s with toks := s.toks + 1 }) : wpAny (model prog w) A (binaryOp .Pow (.int 2 t) (.int b u)) Q E s := by
  have hp := pow70 (n := b.toNat) (by omega)
  exact pow_int_small h0 (by omega) (by decide) (h _ rfl hp.1 hp.2)
theorem div_posC (hb : 0 < b) (hb' : b ≤ 1180591620717411303424) (h : ∀ r : Int, r = a / b → Q (.int r s.toks) { s with toks := s.toks + 1 }) : wpAny (model prog w) A (binaryOp .FloorDiv (.int a t) (.int b u)) Q E s := by
  refine floordiv_int (by omega) ?_ (Or.inl (PyProof.noPylong_of_log2 ?_))
  · rw [Int.fdiv_eq_ediv_of_nonneg _ (by omega)]
    exact h _ rfl
  · have := log2_lt (n := b.natAbs) (k := 71) (by decide) (by have : (2:Nat) ^ 71 = 2361183241434822606848 := by decide
                                                              omega)
    omega
end
local macro_rules | `(tactic| walk_at "mine enter") => `(tactic| (refine' code_def ?k1 ?k2 ?k3 ?k4 ?k5 ?kA ?kF ?kK ?k6 ?k7 ?k8 ?k9 ?kB ?_ ?c2 ?c3 ?c4 ?c5; (case kA => exact rfl); (case kF => exact rfl); (case kK => first | exact rfl | assumption); (case k1 => k_asm); (case k2 => k_asm); (case k3 => k_asm); (case k4 => k_asm); (case k5 => k_asm); (case k6 => k_is); (case k7 => k_is); (case k8 => ktr_room); (case k9 => first | exact BindsTo.of_eq rfl | exact binds_K (by k_in) rfl (by k_is) rfl rfl rfl); (case c5 => decide); (case kB => exact locs rfl); (case c2 => exact rfl); (case c3 => exact rfl); (case c4 => exact rfl); k_whole; intro g' L' h' FG' F' N' B' X' T'; (try dsimp only); (try k_lift B'); (try k_fold)))
local macro_rules | `(tactic| walk_at "mine enterC") => `(tactic| (refine' code_defC ?k1 ?k2 ?k3 ?k4 ?k5 ?kA ?kF ?kK ?k6 ?k7 ?k8 ?k9 ?kB ?kD ?_ ?c2 ?c3 ?c4; (case kA => exact rfl); (case kF => exact rfl); (case kK => first | exact rfl | assumption); (case k1 => k_asm); (case k2 => k_asm); (case k3 => k_asm); (case k4 => k_asm); (case k5 => k_asm); (case k6 => k_is); (case k7 => k_is); (case k8 => ktr_room); (case k9 => first | exact BindsTo.of_eq rfl | exact binds_K (by k_in) rfl (by k_is) rfl rfl rfl); (case kB => exact rfl); (case kD => decide +kernel); (case c2 => exact rfl); (case c3 => exact rfl); (case c4 => exact rfl); k_whole; intro g' L' h' tk' cells' FG' F' N' Y' B' X' T' l1; (try k_lt l1); k_cells Y'; (try simp only [List.cons_append, List.nil_append] at N'); (try dsimp only); (try k_lift B'); (try k_fold)))
local macro_rules | `(tactic| walk_at "eval Call") => `(tactic| k_dflt (refine Call_ ?_))
local macro_rules | `(tactic| walk_at "ite") => `(tactic| first
  | (refine ite_pos ?kite ?_; (case kite => first | assumption | (simp only [beq_iff_eq, bne_iff_ne, decide_eq_true_eq, Bool.not_eq_true', beq_eq_false_iff_ne, decide_eq_false_iff_not] ; omega)))
  | (refine ite_neg ?kite ?_; (case kite => first | assumption | (simp only [beq_iff_eq, bne_iff_ne, decide_eq_true_eq, Bool.not_eq_true', beq_eq_false_iff_ne, decide_eq_false_iff_not] ; omega))))
local macro_rules | `(tactic| walk_at "binaryOp Mult int int") => `(tactic| (k_here; (with_reducible refine mul_mid ?kb ?kc ?_); (case kb => omega); (case kc => omega); intro r9 hr9))

local macro_rules | `(tactic| walk_at "binaryOp Pow int int") => `(tactic| (k_here; k_dflt (refine pow2 ?kb ?kc ?_); (case kb => omega); (case kc => omega); intro r9 hr9 hr9a hr9b))
local macro_rules | `(tactic| walk_at "binaryOp FloorDiv int int") => `(tactic| (k_here; k_dflt (refine div_posC ?kb ?kc ?_); (case kb => omega); (case kc => omega); intro r9 hr9))
local macro_rules | `(tactic| walk_at "binaryOp Mod int int") => `(tactic| (k_here; k_dflt (refine mod_pos ?kb ?_); (case kb => omega); intro r9 hr9 hr9a hr9b))
theorem bit_says (n p : Int) (tn tp : Tok) (news : List (Addr × Obj)) (h0 : 0 ≤ p) (h1 : p ≤ 69) :
    Says 1 96 news [.int n tn, .int p tp] fun r news' => (∃ b t, r = .int b t ∧ b = n / 2 ^ p.toNat % 2 ∧ 0 ≤ b ∧ b < 2) ∧ news' = news := by
  unfold Says
  k_fill
  intro w mean mg mb dp un gd cn cs ad ccd cl outer A₀ base h₀ L m s Q E B F X N T hk hd hu hret
  refine wpAny_call ?_
  k_dflt cell_enter
  k_steps
  refine' hret _ _ _ _ ?ea ?eb ?ec
  case eb => k_asm
  case ec => k_asm
  case ea =>
    subst_vars
    exact ⟨⟨_, _, rfl, rfl, by assumption, by assumption⟩, rfl⟩
end Mine
end

section
set_option maxRecDepth 100000
set_option maxHeartbeats 8000000
open PySem PySem.W PySem.Spec PySem.Calls PyProof.Rows
namespace Mine
section
local macro_rules | `(tactic| walk_at "mine enter") => `(tactic| (refine' code_def ?k1 ?k2 ?k3 ?k4 ?k5 ?kA ?kF ?kK ?k6 ?k7 ?k8 ?k9 ?kB ?_ ?c2 ?c3 ?c4 ?c5; (case kA => exact rfl); (case kF => exact rfl); (case kK => first | exact rfl | assumption); (case k1 => k_asm); (case k2 => k_asm); (case k3 => k_asm); (case k4 => k_asm); (case k5 => k_asm); (case k6 => k_is); (case k7 => k_is); (case k8 => ktr_room); (case k9 => first | exact BindsTo.of_eq rfl | exact binds_K (by k_in) rfl (by k_is) rfl rfl rfl); (case c5 => decide); (case kB => exact locs rfl); (case c2 => exact rfl); (case c3 => exact rfl); (case c4 => exact rfl); k_whole; intro g' L' h' FG' F' N' B' X' T'; (try dsimp only); (try k_lift B'); (try k_fold)))
local macro_rules | `(tactic| walk_at "binaryOp Pow int int") => `(tactic| (k_here; k_dflt (refine pow2 ?kb ?kc ?_); (case kb => omega); (case kc => omega); intro r9 hr9 hr9a hr9b))
local macro_rules | `(tactic| walk_at "binaryOp FloorDiv int int") => `(tactic| (k_here; k_dflt (refine div_posC ?kb ?kc ?_); (case kb => omega); (case kc => omega); intro r9 hr9))
local macro_rules | `(tactic| walk_at "binaryOp Mod int int") => `(tactic| (k_here; k_dflt (refine mod_pos ?kb ?_); (case kb => omega); intro r9 hr9 hr9a hr9b))
local macro_rules | `(tactic| walk_at "eval Call") => `(tactic| k_dflt (refine Call_ ?_))
local macro_rules | `(tactic| walk_at "mine bit") => `(tactic| (
  refine' Says.use ?k1 ?k2 ?k3 ?k5 ?kK (bit_says _ _ _ _ _ ?r1 ?r2) ?k4 ?kd ?ku ?kR
  (case k1 => k_asm)
  (case k2 => k_asm)
  (case k3 => k_asm)
  (case k5 => k_asm)
  (case kK => first | exact rfl | assumption)
  (case k4 => k_asm)
  (case kd => ktr_room)
  (case ku => ktr_units)
  (case r1 => first | assumption | omega)
  (case r2 => omega)
  intro r9 n9 h9 tk9 R9 F9 N9
  obtain ⟨⟨q9, tq9, hr9, hq9, hf1, hf2⟩, hn9⟩ := R9
  subst hr9
  subst hn9
  (try dsimp only)
  (try k_sweep)
  (try k_fold)))
local macro_rules | `(tactic| walk_at "call ref") => `(tactic| (k_here; k_dflt (first | walk_at "mine bit" | (refine wpAny_call ?_; walk_at "mine enter"))))
def wgt (p : Int) : Int := if p < 69 then 2 ^ p.toNat else 0 - 2 ^ p.toNat
def bitAt (n p : Int) : Int := n / 2 ^ p.toNat % 2
def opSum (g : Int → Int → Int) (a b : Int) (ps : List Int) : Int := (ps.map fun p => g (bitAt a p) (bitAt b p) * wgt p).sum
def gAnd (x y : Int) : Int := x * y
def gOr (x y : Int) : Int := x + y - x * y
def gXor (x y : Int) : Int := (x + y) % 2
theorem opSum_more {g : Int → Int → Int} {a b f k t : Int} {pre : List Int} (hf : f = opSum g a b pre) (ht : t = g (bitAt a k) (bitAt b k) * wgt k) : f + t = opSum g a b (pre ++ [k]) := by
  subst hf ht
  unfold opSum
  simp
theorem step_lo {g : Int → Int → Int} {a b f k q q' t w r : Int} {pre : List Int} (hf : f = opSum g a b pre) (hq : q = a / 2 ^ k.toNat % 2) (hq' : q' = b / 2 ^ k.toNat % 2) (ht : t = g q q') (hw : w = 2 ^ k.toNat) (hk : k < 69) (hr : r = t * w) : f + r = opSum g a b (pre ++ [k]) := by
  refine opSum_more hf ?_
  subst hq hq' ht hw hr
  unfold wgt bitAt
  rw [if_pos hk]
theorem step_hi {g : Int → Int → Int} {a b f k q q' t w r : Int} {pre : List Int} (hf : f = opSum g a b pre) (hq : q = a / 2 ^ k.toNat % 2) (hq' : q' = b / 2 ^ k.toNat % 2) (ht : t = g q q') (hw : w = 2 ^ k.toNat) (hk : ¬ k < 69) (hr : r = t * (0 - w)) : f + r = opSum g a b (pre ++ [k]) := by
  refine opSum_more hf ?_
  subst hq hq' ht hw hr
  unfold wgt bitAt
  rw [if_neg hk]
section
variable {prog : Program} {w : World} {A : Around} {E : Value → Shared → Prop} {s : Shared} {a b : Int} {t u : Tok} {Q : Value → Shared → Prop}
theorem mul_bit (ha : 0 ≤ a) (ha' : a < 2) (hb : 0 ≤ b) (hb' : b < 2) (h : ∀ r : Int, r = a * b → 0 ≤ r → r < 2 → Q (.int r s.toks) { s with toks := s.toks + 1 }) : wpAny (model prog w) A (binaryOp .Mult (.int a t) (.int b u)) Q E s := by
  refine mul_int (h _ rfl ?_ ?_) (PySem.IntMulOk.of_right (PySem.intBits_le_64 (by omega) (by omega)))
  · exact Int.mul_nonneg ha hb
  · have h1 : a = 0 ∨ a = 1 := by omega
    rcases h1 with rfl | rfl <;> omega
theorem getItem_i {d : Addr} {D : List (PyData × PyData)} {x : Str} {i : Int}
    (T : TabAt (PySem.strKind prog w) PyData.str s.heap d D) (hl : Spec.lookup (PyData.str x) D = some (PyData.int i)) (h : ∀ t, Q (.int i t) { s with toks := s.toks + 1 }) : wpAny (model prog w) A (getItem (.ref d) (.str x t)) Q E s := by
  refine getItem_tab PyProof.V.same_str (strKind_is _ _ _ _) T hl fun v hv => ?_
  obtain ⟨t', rfl⟩ := PyProof.V.Flat.int_inv hv
  exact h t'
end
local macro_rules | `(tactic| walk_at "binaryOp Mult int int") => `(tactic| (k_here; k_dflt (first
  | (refine mul_bit ?ka ?kb ?kc ?kd ?_; (case ka => omega); (case kb => omega); (case kc => omega); (case kd => omega); intro r9 hr9 hr9a hr9b)
  | (refine mul_small' ?ka ?kb ?_; (case ka => omega); (case kb => omega); intro r9 hr9))))
local macro_rules | `(tactic| walk_at "getItem ref str") => `(tactic| (k_here; k_dflt (refine' getItem_i ?k1 ?k2 ?_; (case k1 => k_tabat); (case k2 => rfl)); intro t9))
theorem bybits_and (a b : Int) (to ta tb : Tok) (news : List (Addr × Obj)) :
    Says 3 103 news [.str (Str.ofString "&") to, .int a ta, .int b tb] fun r news' => (∃ t, r = .int (opSum gAnd a b (rangeKs 0 70)) t) ∧ news' = news := by
  unfold Says
  k_fill
  intro w mean mg mb dp un gd cn cs ad ccd cl outer A₀ base h₀ L m s Q E B F X N T hk hd hu hret
  refine wpAny_call ?_
  k_dflt cell_enter
  repeat' (first | (fail_if_success (with_reducible show wpAny _ _ (pyIter _) _ _ _)); first | (k_unfold; (try dsimp only)) | walk1 | (dsimp only; walk1))
  k_state (fun pre f => f = opSum gAnd a b pre) "found"
  · repeat' (first | (fail_if_success (with_reducible show InvPostN _ _ _ _ _ _ _ _ _)); first | (k_unfold; (try dsimp only)) | walk1 | (dsimp only; walk1))
    all_goals (
      dsimp only [InvPostN]
      rename News _ _ _ _ => nE'
      refine' kst_end (⟨_, _⟩) ?c1 nE' ?c2 ?c3 ?c4 ?c5 ?c6 ?c7 ?c8
      case c1 => assumption
      case c2 => exact fun p hp => List.mem_cons_of_mem _ (List.mem_cons_of_mem _ (List.mem_append_left _ hp))
      case c3 => exact fun p hp => List.mem_cons_of_mem _ (List.mem_cons_of_mem _ (List.mem_append_right _ hp))
      case c4 => exact rfl
      case c5 => exact True.intro
      case c6 =>
        intro p hp
        cases List.mem_singleton.mp hp
        exact rfl
      case c8 =>
        subst_vars
        first
          | exact step_lo rfl rfl rfl rfl rfl (by assumption) rfl
          | exact step_hi rfl rfl rfl rfl rfl (by assumption) rfl
      case c7 =>
        intro z h1 h2 h3
        have h8 : ¬ ([Str.ofString "one", Str.ofString "other", Str.ofString "told"].contains z = true) := by
            intro q
            rw [h3] at q
            cases q
        have h4 : z ≠ Str.ofString "found" := h2 _ (List.mem_singleton.mpr rfl)
        simp only [List.contains_cons, List.contains_nil, Bool.or_false, Bool.or_eq_false_iff, beq_eq_false_iff_ne, ne_eq] at h3
        obtain ⟨h5, h6, h7⟩ := h3
        rw [if_neg h4, if_neg h7, if_neg h5, if_neg h6, if_neg h1, if_neg h8]
        exact if_neg h4)
  · k_steps
    refine' hret _ _ _ _ ?ea ?eb ?ec
    case eb => k_asm
    case ec => k_asm
    case ea =>
      subst_vars
      exact ⟨⟨_, rfl⟩, rfl⟩
theorem bybits_or (a b : Int) (to ta tb : Tok) (news : List (Addr × Obj)) :
    Says 3 103 news [.str (Str.ofString "|") to, .int a ta, .int b tb] fun r news' => (∃ t, r = .int (opSum gOr a b (rangeKs 0 70)) t) ∧ news' = news := by
  unfold Says
  k_fill
  intro w mean mg mb dp un gd cn cs ad ccd cl outer A₀ base h₀ L m s Q E B F X N T hk hd hu hret
  refine wpAny_call ?_
  k_dflt cell_enter
  repeat' (first | (fail_if_success (with_reducible show wpAny _ _ (pyIter _) _ _ _)); first | (k_unfold; (try dsimp only)) | walk1 | (dsimp only; walk1))
  k_state (fun pre f => f = opSum gOr a b pre) "found"
  · repeat' (first | (fail_if_success (with_reducible show InvPostN _ _ _ _ _ _ _ _ _)); first | (k_unfold; (try dsimp only)) | walk1 | (dsimp only; walk1))
    all_goals (
      dsimp only [InvPostN]
      rename News _ _ _ _ => nE'
      refine' kst_end (⟨_, _⟩) ?c1 nE' ?c2 ?c3 ?c4 ?c5 ?c6 ?c7 ?c8
      case c1 => assumption
      case c2 => exact fun p hp => List.mem_cons_of_mem _ (List.mem_cons_of_mem _ (List.mem_append_left _ hp))
      case c3 => exact fun p hp => List.mem_cons_of_mem _ (List.mem_cons_of_mem _ (List.mem_append_right _ hp))
      case c4 => exact rfl
      case c5 => exact True.intro
      case c6 =>
        intro p hp
        cases List.mem_singleton.mp hp
        exact rfl
      case c8 =>
        subst_vars
        first
          | exact step_lo rfl rfl rfl rfl rfl (by assumption) rfl
          | exact step_hi rfl rfl rfl rfl rfl (by assumption) rfl
      case c7 =>
        intro z h1 h2 h3
        have h8 : ¬ ([Str.ofString "one", Str.ofString "other", Str.ofString "told"].contains z = true) := by
            intro q
            rw [h3] at q
            cases q
        have h4 : z ≠ Str.ofString "found" := h2 _ (List.mem_singleton.mpr rfl)
        simp only [List.contains_cons, List.contains_nil, Bool.or_false, Bool.or_eq_false_iff, beq_eq_false_iff_ne, ne_eq] at h3
        obtain ⟨h5, h6, h7⟩ := h3
        rw [if_neg h4, if_neg h7, if_neg h5, if_neg h6, if_neg h1, if_neg h8]
        exact if_neg h4)
  · k_steps
    refine' hret _ _ _ _ ?ea ?eb ?ec
    case eb => k_asm
    case ec => k_asm
    case ea =>
      subst_vars
      exact ⟨⟨_, rfl⟩, rfl⟩
theorem bybits_xor (a b : Int) (to ta tb : Tok) (news : List (Addr × Obj)) :
    Says 3 103 news [.str (Str.ofString "^") to, .int a ta, .int b tb] fun r news' => (∃ t, r = .int (opSum gXor a b (rangeKs 0 70)) t) ∧ news' = news := by
  unfold Says
  k_fill
  intro w mean mg mb dp un gd cn cs ad ccd cl outer A₀ base h₀ L m s Q E B F X N T hk hd hu hret
  refine wpAny_call ?_
  k_dflt cell_enter
  repeat' (first | (fail_if_success (with_reducible show wpAny _ _ (pyIter _) _ _ _)); first | (k_unfold; (try dsimp only)) | walk1 | (dsimp only; walk1))
  k_state (fun pre f => f = opSum gXor a b pre) "found"
  · repeat' (first | (fail_if_success (with_reducible show InvPostN _ _ _ _ _ _ _ _ _)); first | (k_unfold; (try dsimp only)) | walk1 | (dsimp only; walk1))
    all_goals (
      dsimp only [InvPostN]
      rename News _ _ _ _ => nE'
      refine' kst_end (⟨_, _⟩) ?c1 nE' ?c2 ?c3 ?c4 ?c5 ?c6 ?c7 ?c8
      case c1 => assumption
      case c2 => exact fun p hp => List.mem_cons_of_mem _ (List.mem_cons_of_mem _ (List.mem_append_left _ hp))
      case c3 => exact fun p hp => List.mem_cons_of_mem _ (List.mem_cons_of_mem _ (List.mem_append_right _ hp))
      case c4 => exact rfl
      case c5 => exact True.intro
      case c6 =>
        intro p hp
        cases List.mem_singleton.mp hp
        exact rfl
      case c8 =>
        subst_vars
        first
          | exact step_lo rfl rfl rfl rfl rfl (by assumption) rfl
          | exact step_hi rfl rfl rfl rfl rfl (by assumption) rfl
      case c7 =>
        intro z h1 h2 h3
        have h8 : ¬ ([Str.ofString "one", Str.ofString "other", Str.ofString "told"].contains z = true) := by
            intro q
            rw [h3] at q
            cases q
        have h4 : z ≠ Str.ofString "found" := h2 _ (List.mem_singleton.mpr rfl)
        simp only [List.contains_cons, List.contains_nil, Bool.or_false, Bool.or_eq_false_iff, beq_eq_false_iff_ne, ne_eq] at h3
        obtain ⟨h5, h6, h7⟩ := h3
        rw [if_neg h4, if_neg h7, if_neg h5, if_neg h6, if_neg h1, if_neg h8]
        exact if_neg h4)
  · k_steps
    refine' hret _ _ _ _ ?ea ?eb ?ec
    case eb => k_asm
    case ec => k_asm
    case ea =>
      subst_vars
      exact ⟨⟨_, rfl⟩, rfl⟩
end
end Mine
end

section
set_option maxRecDepth 100000
open PySem PySem.W PySem.Spec PySem.Calls PyProof.Rows
namespace Mine
theorem nat_and_half (x y : Nat) : x &&& y = 2 * (x / 2 &&& y / 2) + x % 2 * (y % 2) := by
  have h1 : (x &&& y) / 2 = x / 2 &&& y / 2 := Nat.and_div_two
  have h2 : (x &&& y) % 2 = x % 2 * (y % 2) := by
    have := Nat.and_mod_two_pow (a := x) (b := y) (n := 1)
    rw [show 2 ^ 1 = 2 from rfl] at this
    rw [this]
    rcases Nat.mod_two_eq_zero_or_one x with hx | hx <;> rcases Nat.mod_two_eq_zero_or_one y with hy | hy <;> rw [hx, hy] <;> rfl
  omega
theorem and_pp {a b : Int} (ha : 0 ≤ a) (hb : 0 ≤ b) : Builtin.bitAnd a b = 2 * Builtin.bitAnd (a / 2) (b / 2) + a % 2 * (b % 2) := by
  obtain ⟨x, rfl⟩ := Int.eq_ofNat_of_zero_le ha
  obtain ⟨y, rfl⟩ := Int.eq_ofNat_of_zero_le hb
  rw [bitAnd_pp (by omega) (by omega), bitAnd_pp (by omega) (by omega)]
  have h := nat_and_half x y
  have e1 : ((x : Int) / 2).toNat = x / 2 := by omega
  have e2 : ((y : Int) / 2).toNat = y / 2 := by omega
  have e3 : (x : Int) % 2 = ((x % 2 : Nat) : Int) := by omega
  have e4 : (y : Int) % 2 = ((y % 2 : Nat) : Int) := by omega
  rw [e1, e2, e3, e4, Int.toNat_natCast, Int.toNat_natCast, ← Int.natCast_mul]
  generalize x % 2 * (y % 2) = k at h ⊢
  omega
theorem not_half (y : Int) : Builtin.bitNot y / 2 = Builtin.bitNot (y / 2) := by
  unfold Builtin.bitNot
  omega
theorem not_mod (y : Int) : Builtin.bitNot y % 2 = 1 - y % 2 := by
  unfold Builtin.bitNot
  omega
theorem not_not (y : Int) : Builtin.bitNot (Builtin.bitNot y) = y := by
  unfold Builtin.bitNot
  omega
theorem and_step_not {x y : Int} (h : Builtin.bitAnd x y = 2 * Builtin.bitAnd (x / 2) (y / 2) + x % 2 * (y % 2)) :
    Builtin.bitAnd x (Builtin.bitNot y) = 2 * Builtin.bitAnd (x / 2) (Builtin.bitNot y / 2) + x % 2 * (Builtin.bitNot y % 2) := by
  rw [not_half, not_mod, bitAnd_not, bitAnd_not, h, Int.mul_sub, Int.mul_sub, Int.mul_one]
  omega
theorem and_p {a : Int} (ha : 0 ≤ a) (b : Int) : Builtin.bitAnd a b = 2 * Builtin.bitAnd (a / 2) (b / 2) + a % 2 * (b % 2) := by
  by_cases hb : 0 ≤ b
  · exact and_pp ha hb
  · have := and_step_not (and_pp (b := Builtin.bitNot b) ha (by unfold Builtin.bitNot; omega))
    rwa [not_not] at this
theorem and_half (a b : Int) : Builtin.bitAnd a b = 2 * Builtin.bitAnd (a / 2) (b / 2) + a % 2 * (b % 2) := by
  by_cases ha : 0 ≤ a
  · exact and_p ha b
  · have h := and_p (a := Builtin.bitNot a) (by unfold Builtin.bitNot; omega) b
    rw [bitAnd_comm, bitAnd_comm (Builtin.bitNot a / 2), Int.mul_comm (Builtin.bitNot a % 2)] at h
    have := and_step_not h
    rw [not_not, bitAnd_comm, bitAnd_comm (b / 2), Int.mul_comm (b % 2)] at this
    exact this

def lowSum (a b : Int) (ps : List Int) : Int := (ps.map fun p => bitAt a p * bitAt b p * 2 ^ p.toNat).sum
theorem rangeKs_succ (n : Nat) : rangeKs 0 (n + 1) = rangeKs 0 n ++ [(n : Int)] := by
  unfold rangeKs
  rw [List.range_succ, List.map_append]
  simp
theorem and_low (a b : Int) (n : Nat) : Builtin.bitAnd a b = lowSum a b (rangeKs 0 n) + 2 ^ n * Builtin.bitAnd (a / 2 ^ n) (b / 2 ^ n) := by
  induction n with
  | zero => simp [lowSum, rangeKs]
  | succ n ih =>
    rw [rangeKs_succ]
    have e : lowSum a b (rangeKs 0 n ++ [(n : Int)]) = lowSum a b (rangeKs 0 n) + a / 2 ^ n % 2 * (b / 2 ^ n % 2) * 2 ^ n := by
      unfold lowSum bitAt
      simp
    rw [e, ih, and_half (a / 2 ^ n)]
    have ea : a / 2 ^ n / 2 = a / 2 ^ (n + 1) := by rw [Int.ediv_ediv_of_nonneg (Int.le_of_lt (Int.pow_pos (by decide))), ← Int.pow_succ]
    have eb : b / 2 ^ n / 2 = b / 2 ^ (n + 1) := by rw [Int.ediv_ediv_of_nonneg (Int.le_of_lt (Int.pow_pos (by decide))), ← Int.pow_succ]
    rw [ea, eb, Int.mul_add, Int.pow_succ, Int.mul_assoc (2 ^ n) 2, Int.mul_comm (2 ^ n) (a / 2 ^ n % 2 * _)]
    omega
theorem top_and {x y : Int} (hx : x = 0 ∨ x = -1) (hy : y = 0 ∨ y = -1) : Builtin.bitAnd x y = -(x % 2 * (y % 2)) := by
  rcases hx with rfl | rfl <;> rcases hy with rfl | rfl <;> decide +kernel
theorem top_of {a : Int} (h0 : -590295810358705651712 ≤ a) (h1 : a < 590295810358705651712) : a / 2 ^ 69 = 0 ∨ a / 2 ^ 69 = -1 := by
  rw [show (2 : Int) ^ 69 = 590295810358705651712 from by decide +kernel]
  omega
theorem and_sum {a b : Int} (ha : -590295810358705651712 ≤ a) (ha' : a < 590295810358705651712) (hb : -590295810358705651712 ≤ b) (hb' : b < 590295810358705651712) :
    opSum gAnd a b (rangeKs 0 70) = Builtin.bitAnd a b := by
  rw [and_low a b 69, top_and (top_of ha ha') (top_of hb hb'), rangeKs_succ 69]
  have e : ∀ ps : List Int, (∀ p ∈ ps, p < 69) → opSum gAnd a b ps = lowSum a b ps := by
    intro ps hp
    unfold opSum lowSum
    congr 1
    refine List.map_congr_left fun p h => ?_
    unfold gAnd wgt
    rw [if_pos (hp p h)]
  have e2 : opSum gAnd a b (rangeKs 0 69 ++ [((69 : Nat) : Int)]) = opSum gAnd a b (rangeKs 0 69) + a / 2 ^ 69 % 2 * (b / 2 ^ 69 % 2) * (0 - 2 ^ 69) := by
    unfold opSum gAnd bitAt wgt
    simp
  rw [e2, e _ (fun p h => by have := mem_rangeKs h; omega)]
  generalize a / 2 ^ 69 % 2 * (b / 2 ^ 69 % 2) = k
  rw [Int.mul_comm k]
  generalize (2 : Int) ^ 69 = P
  rw [Int.sub_mul, Int.zero_mul, Int.mul_neg]
  omega
theorem bit01 (n p : Int) : bitAt n p = 0 ∨ bitAt n p = 1 := by
  unfold bitAt
  omega
theorem or_split (a b : Int) (ps : List Int) : opSum gOr a b ps = opSum gAnd a a ps + opSum gAnd b b ps - opSum gAnd a b ps := by
  induction ps with
  | nil => simp [opSum]
  | cons p r ih =>
    have e : ∀ g x y, opSum g x y (p :: r) = g (bitAt x p) (bitAt y p) * wgt p + opSum g x y r := fun g x y => by simp [opSum]
    rw [e, e, e, e, ih]
    unfold gOr gAnd
    rcases bit01 a p with h | h <;> rcases bit01 b p with h' | h' <;> rw [h, h'] <;> generalize wgt p = w <;> omega
theorem xor_split (a b : Int) (ps : List Int) : opSum gXor a b ps = opSum gAnd a a ps + opSum gAnd b b ps - 2 * opSum gAnd a b ps := by
  induction ps with
  | nil => simp [opSum]
  | cons p r ih =>
    have e : ∀ g x y, opSum g x y (p :: r) = g (bitAt x p) (bitAt y p) * wgt p + opSum g x y r := fun g x y => by simp [opSum]
    rw [e, e, e, e, ih]
    unfold gXor gAnd
    rcases bit01 a p with h | h <;> rcases bit01 b p with h' | h' <;> rw [h, h'] <;> generalize wgt p = w <;> omega
theorem or_sum {a b : Int} (ha : -590295810358705651712 ≤ a) (ha' : a < 590295810358705651712) (hb : -590295810358705651712 ≤ b) (hb' : b < 590295810358705651712) :
    opSum gOr a b (rangeKs 0 70) = Builtin.bitOr a b := by
  rw [or_split, and_sum ha ha' ha ha', and_sum hb hb' hb hb', and_sum ha ha' hb hb', bitAnd_self, bitAnd_self, bitOr_and]
theorem xor_sum {a b : Int} (ha : -590295810358705651712 ≤ a) (ha' : a < 590295810358705651712) (hb : -590295810358705651712 ≤ b) (hb' : b < 590295810358705651712) :
    opSum gXor a b (rangeKs 0 70) = Builtin.bitXor a b := by
  rw [xor_split, and_sum ha ha' ha ha', and_sum hb hb' hb hb', and_sum ha ha' hb hb', bitAnd_self, bitAnd_self, bitXor_and]
end Mine
end

section
local macro_rules | `(tactic| walk_at "mine pad") => `(tactic| fail)
set_option maxRecDepth 100000
set_option maxHeartbeats 8000000
open PySem PySem.W PySem.Spec PySem.Calls PyProof.Rows
namespace Mine
local macro_rules | `(tactic| walk_at "mine enter") => `(tactic| (refine' code_def ?k1 ?k2 ?k3 ?k4 ?k5 ?kA ?kF ?kK ?k6 ?k7 ?k8 ?k9 ?kB ?_ ?c2 ?c3 ?c4 ?c5; (case kA => exact rfl); (case kF => exact rfl); (case kK => first | exact rfl | assumption); (case k1 => k_asm); (case k2 => k_asm); (case k3 => k_asm); (case k4 => k_asm); (case k5 => k_asm); (case k6 => k_is); (case k7 => k_is); (case k8 => ktr_room); (case k9 => first | exact BindsTo.of_eq rfl | exact binds_K (by k_in) rfl (by k_is) rfl rfl rfl); (case c5 => decide); (case kB => exact locs rfl); (case c2 => exact rfl); (case c3 => exact rfl); (case c4 => exact rfl); k_whole; intro g' L' h' FG' F' N' B' X' T'; (try dsimp only); (try k_lift B'); (try k_fold)))
local macro_rules | `(tactic| walk_at "mine enterC") => `(tactic| (refine' code_defC ?k1 ?k2 ?k3 ?k4 ?k5 ?kA ?kF ?kK ?k6 ?k7 ?k8 ?k9 ?kB ?kD ?_ ?c2 ?c3 ?c4; (case kA => exact rfl); (case kF => exact rfl); (case kK => first | exact rfl | assumption); (case k1 => k_asm); (case k2 => k_asm); (case k3 => k_asm); (case k4 => k_asm); (case k5 => k_asm); (case k6 => k_is); (case k7 => k_is); (case k8 => ktr_room); (case k9 => first | exact BindsTo.of_eq rfl | exact binds_K (by k_in) rfl (by k_is) rfl rfl rfl); (case kB => exact rfl); (case kD => decide +kernel); (case c2 => exact rfl); (case c3 => exact rfl); (case c4 => exact rfl); k_whole; intro g' L' h' tk' cells' FG' F' N' Y' B' X' T' l1; (try k_lt l1); k_cells Y'; (try simp only [List.cons_append, List.nil_append] at N'); (try dsimp only); (try k_lift B'); (try k_fold)))
local macro_rules | `(tactic| walk_at "eval Call") => `(tactic| k_dflt (refine Call_ ?_))
local macro_rules | `(tactic| walk_at "ite") => `(tactic| first
  | (refine ite_pos ?kite ?_; (case kite => first | assumption | (simp only [beq_iff_eq, bne_iff_ne, decide_eq_true_eq, Bool.not_eq_true', beq_eq_false_iff_ne, decide_eq_false_iff_not] ; omega)))
  | (refine ite_neg ?kite ?_; (case kite => first | assumption | (simp only [beq_iff_eq, bne_iff_ne, decide_eq_true_eq, Bool.not_eq_true', beq_eq_false_iff_ne, decide_eq_false_iff_not] ; omega))))
local macro_rules | `(tactic| walk_at "binaryOp Mult int int") => `(tactic| (k_here; (with_reducible refine mul_mid ?kb ?kc ?_); (case kb => omega); (case kc => omega); intro r9 hr9))
local macro_rules | `(tactic| walk_at "mine bybits_and") => `(tactic| (
  refine' Says.use ?k1 ?k2 ?k3 ?k5 ?kK (bybits_and _ _ _ _ _ _) ?k4 ?kd ?ku ?kR
  (case k1 => k_asm)
  (case k2 => k_asm)
  (case k3 => k_asm)
  (case k5 => k_asm)
  (case kK => first | exact rfl | assumption)
  (case k4 => k_asm)
  (case kd => ktr_room)
  (case ku => ktr_units)
  intro r9 n9 h9 tk9 R9 F9 N9
  obtain ⟨⟨tq9, hr9⟩, hn9⟩ := R9
  subst hr9
  subst hn9
  (try dsimp only)
  (try k_sweep)
  (try k_fold)))
local macro_rules | `(tactic| walk_at "mine bybits_or") => `(tactic| (
  refine' Says.use ?k1 ?k2 ?k3 ?k5 ?kK (bybits_or _ _ _ _ _ _) ?k4 ?kd ?ku ?kR
  (case k1 => k_asm)
  (case k2 => k_asm)
  (case k3 => k_asm)
  (case k5 => k_asm)
  (case kK => first | exact rfl | assumption)
  (case k4 => k_asm)
  (case kd => ktr_room)
  (case ku => ktr_units)
  intro r9 n9 h9 tk9 R9 F9 N9
  obtain ⟨⟨tq9, hr9⟩, hn9⟩ := R9
  subst hr9
  subst hn9
  (try dsimp only)
  (try k_sweep)
  (try k_fold)))
local macro_rules | `(tactic| walk_at "mine bybits_xor") => `(tactic| (
  refine' Says.use ?k1 ?k2 ?k3 ?k5 ?kK (bybits_xor _ _ _ _ _ _) ?k4 ?kd ?ku ?kR
  (case k1 => k_asm)
  (case k2 => k_asm)
  (case k3 => k_asm)
  (case k5 => k_asm)
  (case kK => first | exact rfl | assumption)
  (case k4 => k_asm)
  (case kd => ktr_room)
  (case ku => ktr_units)
  intro r9 n9 h9 tk9 R9 F9 N9
  obtain ⟨⟨tq9, hr9⟩, hn9⟩ := R9
  subst hr9
  subst hn9
  (try dsimp only)
  (try k_sweep)
  (try k_fold)))
local macro_rules | `(tactic| walk_at "call ref") => `(tactic| (k_here; k_dflt (first | walk_at "mine bybits_and" | walk_at "mine bybits_or" | walk_at "mine bybits_xor" | (refine wpAny_call ?_; walk_at "mine enter"))))
theorem right_and (a b : Int) (to ta tb : Tok) (news : List (Addr × Obj)) (ha : a.natAbs < 18446744073709551620) (hb : b.natAbs < 18446744073709551620) :
    Says 6 122 news [.str (Str.ofString "&") to, .int a ta, .int b tb] fun r news' => r = .bool true ∧ ∀ p ∈ news, p ∈ news' := by
  unfold Says
  k_fill
  intro w mean mg mb dp un gd cn cs ad ccd cl outer A₀ base h₀ L m s Q E B F X N T hk hd hu hret
  refine wpAny_call ?_
  k_dflt walk_at "mine enterC"
  k_steps
  refine' hret _ _ _ _ ?ea ?eb ?ec
  case eb => k_asm
  case ec => k_asm
  case ea =>
    refine ⟨?_, fun p hp => by repeat (first | exact hp | apply List.mem_cons_of_mem)⟩
    rw [and_sum (by omega) (by omega) (by omega) (by omega)]
    exact congrArg Value.bool (beq_self_eq_true _)
theorem right_or (a b : Int) (to ta tb : Tok) (news : List (Addr × Obj)) (ha : a.natAbs < 18446744073709551620) (hb : b.natAbs < 18446744073709551620) :
    Says 6 122 news [.str (Str.ofString "|") to, .int a ta, .int b tb] fun r news' => r = .bool true ∧ ∀ p ∈ news, p ∈ news' := by
  unfold Says
  k_fill
  intro w mean mg mb dp un gd cn cs ad ccd cl outer A₀ base h₀ L m s Q E B F X N T hk hd hu hret
  refine wpAny_call ?_
  k_dflt walk_at "mine enterC"
  k_steps
  refine' hret _ _ _ _ ?ea ?eb ?ec
  case eb => k_asm
  case ec => k_asm
  case ea =>
    refine ⟨?_, fun p hp => by repeat (first | exact hp | apply List.mem_cons_of_mem)⟩
    rw [or_sum (by omega) (by omega) (by omega) (by omega)]
    exact congrArg Value.bool (beq_self_eq_true _)
theorem right_xor (a b : Int) (to ta tb : Tok) (news : List (Addr × Obj)) (ha : a.natAbs < 18446744073709551620) (hb : b.natAbs < 18446744073709551620) :
    Says 6 122 news [.str (Str.ofString "^") to, .int a ta, .int b tb] fun r news' => r = .bool true ∧ ∀ p ∈ news, p ∈ news' := by
  unfold Says
  k_fill
  intro w mean mg mb dp un gd cn cs ad ccd cl outer A₀ base h₀ L m s Q E B F X N T hk hd hu hret
  refine wpAny_call ?_
  k_dflt walk_at "mine enterC"
  k_steps
  refine' hret _ _ _ _ ?ea ?eb ?ec
  case eb => k_asm
  case ec => k_asm
  case ea =>
    refine ⟨?_, fun p hp => by repeat (first | exact hp | apply List.mem_cons_of_mem)⟩
    rw [xor_sum (by omega) (by omega) (by omega) (by omega)]
    exact congrArg Value.bool (beq_self_eq_true _)
end Mine
end

section
set_option maxRecDepth 100000
set_option maxHeartbeats 8000000
open PySem PySem.W PySem.Spec PySem.Calls PyProof.Rows
namespace Mine
open LCg
section
variable {prog : Program} {w : World} {A : Around} {E : Value → Shared → Prop} {s : Shared} {h₀ : Heap} {L : Addr} {m : Str → Option Value} {env : Env}
/-- What one turn of the block over enumerate(text) is to give. -/
def EnElt (prog : Program) (w : World) (A : Around) (h₀ : Heap) (L : Addr) (m : Str → Option Value) (env : Env) (elt : Expr) (x x₂ : Str) (scope : Scope) (cl : List (Str × Addr)) (s : Shared) (cps : Array Nat) (g : Nat → Int) (news : List (Addr × Obj)) : Prop :=
  ∀ (i c : Nat) (t u : Tok) (I J C D : Addr) (oI oJ oC oD : Obj) (m₂ : Str → Option Value) (h : Heap) (tk : Nat) (Q E' : Value → Shared → Prop), cps[i]? = some c → NsObj oC m₂ → m₂ x = some (.int (i : Int) t) → m₂ x₂ = some (.str ⟨#[c]⟩ u) →
    Fr h₀ L h m → News h₀ L h ((I, oI) :: (J, oJ) :: (C, oC) :: (D, oD) :: news) →
    (∀ (h' : Heap) (tk' : Nat) (t' : Tok), Fr h₀ L h' m → News h₀ L h' ((I, oI) :: (J, oJ) :: (C, oC) :: (D, oD) :: news) → Q (.int (g i) t') { s with heap := h', toks := tk' }) →
    wpAny (model prog w) A (eval elt (compEnvC scope cl C env)) Q E' { s with heap := h, toks := tk }

def AllG (g : Nat → Int) (ys : List Value) : Prop := ∀ i, i < ys.length → ∃ t, ys[i]? = some (.int (g i) t)

theorem enum_block {elt iter : Expr} {x x₂ : Str} {px px₂ tp : Pos} {kk : Nat} {scope : Scope} {cl : List (Str × Addr)} {pos : Pos} {s₂ : Shared} {I J : Addr} {text : Str} {tt : Tok} {g : Nat → Int} {news : List (Addr × Obj)} {RR : Value → Addr → Result → Shared → Prop}
    (hh : A.handled = none) (hsz : text.cps.size ≤ sizeLine) (hIJ : I ≠ J)
    (hit : IsEnum s₂.heap I J 0 .none) (hst : s₂.heap.IsStrIter J "str_ascii_iterator" text tt 0)
    (hcell : ∀ y ∈ scope.names, y.2 ≠ .cell) (hkind : scope.kind = .function) (hx : scope.names.lookup x = some .local) (hx₂ : scope.names.lookup x₂ = some .local) (hxx : x ≠ x₂)
    (F : Fr h₀ L s₂.heap m) (N : News h₀ L s₂.heap news) (hIL : L ≠ I) (hJL : L ≠ J) (hI₀ : h₀.get? I = none) (hJ₀ : h₀.get? J = none) (off : ∀ p ∈ news, p.1 ≠ I ∧ p.1 ≠ J)
    (R : EnElt prog w A h₀ L m env elt x x₂ scope cl s₂ text.cps g news)
    (hRR : ∀ D C h tk m' ys, Fr h₀ L h m → News h₀ L h ((D, LCg.lst ys) :: news) → h.Ns C m' → h₀.get? C = none → h₀.get? D = none → C ≠ L → D ≠ L → C ≠ D → (∀ p ∈ news, p.1 ≠ C) → ys.length = text.cps.size → AllG g ys → RR (.ref D) C (.ok .next) { s₂ with heap := h, toks := tk }) :
    wpAny (model prog w) A (newList []) (fun acc s₃ => wpAny (model prog w) A (newFunctionEnv scope env.globals cl [] env.qual none .none (some env)) (fun cenv s₄ =>
      codeAny (model prog w) A (.compStart (.ListComp elt [⟨.Tuple [.Name x px, .Name x₂ px₂] kk tp, iter, [], 0⟩] scope pos) 0 (.ref I) acc { cenv with scope := relabel scope env }) (RR acc cenv.locals) s₄) E s₃) E s₂ := by
  refine wpAny_newObj_type (wpAny_newFunctionEnv hcell (by intro y hy; simp at hy) (fun h₁ hns₁ hsb₁ => ?_) hkind)
  dsimp only at hns₁ hsb₁ ⊢
  generalize hH2 : s₂.heap.push { cls := .type "list", dict := none, data := .seq ([] : List Value).toArray } = H2 at hns₁ hsb₁ ⊢
  have hC : H2.objs.size = s₂.heap.objs.size + 1 := by rw [← hH2, Heap.size_push]
  have hDC : s₂.heap.objs.size ≠ H2.objs.size := by rw [hC]; exact Nat.ne_of_lt (Nat.lt_succ_self _)
  have below : ∀ b, b < s₂.heap.objs.size → b ≠ H2.objs.size ∧ b ≠ s₂.heap.objs.size := fun b hb => ⟨by rw [hC]; exact Nat.ne_of_lt (Nat.lt_succ_of_lt hb), Nat.ne_of_lt hb⟩
  have hIlt : I < s₂.heap.objs.size := Heap.lt_size hit
  have hJlt : J < s₂.heap.objs.size := by obtain ⟨_, e, _⟩ := hst; exact Heap.lt_size e
  have old : ∀ b o, s₂.heap.get? b = some o → h₁.get? b = some o := fun b o e => hsb₁.extBut b o (below b (Heap.lt_size e)).1 (Heap.get?_push_of_some _ (hH2 ▸ Heap.get?_push_of_some _ e))
  have hacc : h₁.get? s₂.heap.objs.size = some (LCg.lst []) := hsb₁.extBut _ _ hDC (Heap.get?_push_of_some _ (hH2 ▸ Heap.get?_push_size _ rfl))
  have W := WalksT.enumerateD (Draws.strAscii (prog := prog) (w := w) (A := A.in1) hh J text tt) I hIJ (by simpa using hIJ) (by simp)
  have hst₁ : (fun (i : Nat) (h : Heap) => (∃ old, IsEnum h I J (i : Int) old) ∧ h.IsStrIter J "str_ascii_iterator" text tt i) 0 h₁ := ⟨⟨_, old _ _ hit⟩, by obtain ⟨o, e, r⟩ := hst; exact ⟨o, old _ _ e, r⟩⟩
  have fresh : ∀ a, s₂.heap.objs.size ≤ a → s₂.heap.get? a = none := fun a ha => by
    cases e : s₂.heap.get? a with
    | none => rfl
    | some o' => exact absurd (Heap.lt_size e) (Nat.not_lt.mpr ha)
  have fresh₀ : ∀ a, s₂.heap.objs.size ≤ a → h₀.get? a = none := fun a ha => by
    cases e : h₀.get? a with
    | none => rfl
    | some o' => have := F.keep a o' e; rw [fresh a ha] at this; cases this
  have hD₀ : h₀.get? s₂.heap.objs.size = none := fresh₀ _ (Nat.le_refl _)
  have hC₀ : h₀.get? H2.objs.size = none := fresh₀ _ (by rw [hC]; exact Nat.le_succ _)
  have hLlt : L < s₂.heap.objs.size := F.ns.lt
  have hDL : s₂.heap.objs.size ≠ L := Ne.symm (below L hLlt).2
  have hCL : H2.objs.size ≠ L := Ne.symm (below L hLlt).1
  have hCI : I ≠ H2.objs.size := (below I hIlt).1
  have hDI : I ≠ s₂.heap.objs.size := (below I hIlt).2
  have hCJ : J ≠ H2.objs.size := (below J hJlt).1
  have hDJ : J ≠ s₂.heap.objs.size := (below J hJlt).2
  have offC : ∀ p ∈ news, p.1 ≠ H2.objs.size ∧ p.1 ≠ s₂.heap.objs.size := fun p hp => below _ (Heap.lt_size (N p hp).1)
  have loop : ∀ s₃ : Shared, s₃ = { s₂ with heap := h₁, toks := s₂.toks + ([] : List (Str × Value)).length } →
      codeAny (model prog w) A (.compLoop (.ListComp elt [⟨.Tuple [.Name x px, .Name x₂ px₂] kk tp, iter, [], 0⟩] scope pos) 0 (.ref I) (.ref s₂.heap.objs.size) (compEnvC scope cl H2.objs.size env))
        (RR (.ref s₂.heap.objs.size) H2.objs.size) s₃ := by
    rintro s₃ rfl
    refine kcp_loop
      (fun k s' => ∃ h' tk i ys m', s' = { s₂ with heap := h', toks := tk } ∧ i ≤ text.cps.size ∧ k = text.cps.size + 1 - i ∧ ys.length = i ∧ ((∃ old, IsEnum h' I J (i : Int) old) ∧ h'.IsStrIter J "str_ascii_iterator" text tt i) ∧ Fr h₀ L h' m ∧ h'.Ns H2.objs.size m' ∧
        News h₀ L h' ((s₂.heap.objs.size, LCg.lst ys) :: news) ∧ AllG g ys) ?_ (text.cps.size + 1)
      ⟨h₁, _, 0, [], _, rfl, Nat.zero_le _, rfl, rfl, hst₁, F.keeps old, hns₁, fun p hp => ?_, fun i hi => absurd hi (Nat.not_lt_zero _)⟩
    · rintro k s' ⟨h', tk, i, ys, m', rfl, hi, rfl, hyl, hst', F', hn', N', G'⟩
      by_cases hlt : i < text.cps.size
      · refine W.item i _ _ _ hlt hst' fun T vals h₂ tk₂ hPt hTf hT hMd hk₂ => ?_
        obtain ⟨t, v, ⟨c, u, hc, rfl⟩, rfl⟩ := hPt
        refine W.go _ _ _ i T _ _ _ hMd fun h₃ hst₃ hk₃ => ?_
        have hTa := W.apart i T _ hMd
        have hT₃ : h₃.IsTuple T #[.int (i : Int) t, .str ⟨#[c]⟩ u] := hT.at fun o e => hk₃ T o hTa e
        have up₃ : ∀ b o, b ≠ I → b ≠ J → h'.get? b = some o → h₃.get? b = some o := fun b o h1 h2 e => hk₃ b o (by simp [h1, h2]) (hk₂ b o (by simp [h1, h2]) e)
        refine kcp_assign (env := compEnvC scope cl H2.objs.size env) hh hT₃ (lookup_relabel_local hx) (lookup_relabel_local hx₂) (by simp [compEnvC, relabel, hkind]) (hn'.at' fun o e => up₃ _ o (Ne.symm hCI) (Ne.symm hCJ) e) fun h₄ tk₄ hn₄ hs₄ => ?_
        have up : ∀ b o, b ≠ I → b ≠ J → b ≠ H2.objs.size → h'.get? b = some o → h₄.get? b = some o := fun b o h1 h2 h3 e => hs₄ b o h3 (up₃ b o h1 h2 e)
        obtain ⟨⟨old₃, hI₃⟩, oJ, heJ, hrJ⟩ := hst₃
        have hI₄ := hs₄ I _ hCI hI₃
        have hJ₄ : h₄.get? J = some oJ := hs₄ J _ hCJ heJ
        obtain ⟨oC, heC, hoC⟩ := ns_obj hn₄
        have F₄ : Fr h₀ L h₄ m := ⟨F'.ns.at' fun o e => up _ o hIL hJL (Ne.symm hCL) e, fun b o e => up b o (fun q => by rw [q, hI₀] at e; cases e) (fun q => by rw [q, hJ₀] at e; cases e) (fun q => by rw [q, hC₀] at e; cases e) (F'.keep b o e), F'.above⟩
        have N₄ : News h₀ L h₄ ((I, _) :: (J, oJ) :: (H2.objs.size, oC) :: (s₂.heap.objs.size, LCg.lst ys) :: news) := fun q hq => by
          rcases List.mem_cons.mp hq with rfl | hq
          · exact ⟨hI₄, Ne.symm hIL, hI₀⟩
          · rcases List.mem_cons.mp hq with rfl | hq
            · exact ⟨hJ₄, Ne.symm hJL, hJ₀⟩
            · rcases List.mem_cons.mp hq with rfl | hq
              · exact ⟨heC, hCL, hC₀⟩
              · have z := N' q hq
                refine ⟨up _ _ ?_ ?_ ?_ z.1, z.2⟩
                · rcases List.mem_cons.mp hq with rfl | hq
                  · exact Ne.symm hDI
                  · exact (off q hq).1
                · rcases List.mem_cons.mp hq with rfl | hq
                  · exact Ne.symm hDJ
                  · exact (off q hq).2
                · rcases List.mem_cons.mp hq with rfl | hq
                  · exact hDC
                  · exact (offC q hq).1
        refine R i c t u I J H2.objs.size s₂.heap.objs.size _ oJ oC _ _ h₄ _ _ _ hc hoC (by simp [hxx]) (by simp) F₄ N₄ fun h₅ tk₅ t₅ F₅ N₅ => ?_
        have zI := (N₅ (I, _) List.mem_cons_self).1
        have zJ := (N₅ (J, oJ) (List.mem_cons_of_mem _ List.mem_cons_self)).1
        have zC := (N₅ (H2.objs.size, oC) (List.mem_cons_of_mem _ (List.mem_cons_of_mem _ List.mem_cons_self))).1
        have zD := (N₅ (s₂.heap.objs.size, LCg.lst ys) (List.mem_cons_of_mem _ (List.mem_cons_of_mem _ (List.mem_cons_of_mem _ List.mem_cons_self)))).1
        have N₅' : News h₀ L h₅ news := fun q hq => N₅ q (List.mem_cons_of_mem _ (List.mem_cons_of_mem _ (List.mem_cons_of_mem _ (List.mem_cons_of_mem _ hq))))
        refine append_at (hsz := by show ys.toArray.size ≤ sizeLine; rw [List.size_toArray, hyl]; exact Nat.le_trans hi hsz) zD fun h₆ hs₆ hD₆ => ?_
        refine ⟨text.cps.size + 1 - (i + 1), by omega, h₆, tk₅, i + 1, ys ++ [.int (g i) t₅], _, rfl, hlt, rfl, by rw [List.length_append, List.length_singleton, hyl], ⟨⟨_, hs₆.extBut I _ hDI zI⟩, oJ, hs₆.extBut J oJ hDJ zJ, hrJ⟩, F₅.change hs₆ hDL hD₀,
          (hoC.ns zC).sameBut hs₆ (Ne.symm hDC), fun q hq => ?_, ?_⟩
        · rcases List.mem_cons.mp hq with rfl | hq
          · exact ⟨hD₆.trans (congrArg some (LCg.lst_snoc ys _)), hDL, hD₀⟩
          · exact ⟨hs₆.extBut _ _ (offC q hq).2 (N₅' q hq).1, (N₅' q hq).2⟩
        · intro j hj
          rw [List.length_append, List.length_singleton, hyl] at hj
          by_cases hji : j < i
          · obtain ⟨tj, ej⟩ := G' j (by rw [hyl]; exact hji)
            exact ⟨tj, by rw [List.getElem?_append_left (by rw [hyl]; exact hji)]; exact ej⟩
          · obtain rfl : j = i := by omega
            exact ⟨t₅, by rw [List.getElem?_append_right (by rw [hyl]; exact Nat.le_refl _), hyl, Nat.sub_self]; rfl⟩
      · obtain rfl : i = text.cps.size := Nat.le_antisymm hi (Nat.not_lt.mp hlt)
        refine W.done _ _ _ hst' fun h₂ tk₂ hk₂ => ?_
        have up : ∀ b o, b ≠ I → b ≠ J → h'.get? b = some o → h₂.get? b = some o := fun b o h1 h2 e => hk₂ b o (by simp [h1, h2]) e
        refine hRR _ _ h₂ tk₂ _ ys ⟨F'.ns.at' fun o e => up _ o hIL hJL e, fun b o e => up b o (fun q => by rw [q, hI₀] at e; cases e) (fun q => by rw [q, hJ₀] at e; cases e) (F'.keep b o e), F'.above⟩ (fun q hq => ?_) (hn'.at' fun o e => up _ o (Ne.symm hCI) (Ne.symm hCJ) e) hC₀ hD₀ hCL hDL (Ne.symm hDC) (fun p hp => (offC p hp).1) hyl G'
        have z := N' q hq
        refine ⟨up _ _ ?_ ?_ z.1, z.2⟩
        · rcases List.mem_cons.mp hq with rfl | hq
          · exact Ne.symm hDI
          · exact (off q hq).1
        · rcases List.mem_cons.mp hq with rfl | hq
          · exact Ne.symm hDJ
          · exact (off q hq).2
    · rcases List.mem_cons.mp hp with rfl | hp
      · exact ⟨hacc, hDL, hD₀⟩
      · exact ⟨old _ _ (N p hp).1, (N p hp).2⟩
  exact codeAny_compStart_list (loop _ rfl) (W.self 0 _ _ _ hst₁ (loop _ rfl))

def SrcEn (prog : Program) (w : World) (A : Around) (h₀ : Heap) (L : Addr) (m : Str → Option Value) (env : Env) (elt : Expr) (x x₂ : Str) (scope : Scope) (cl : List (Str × Addr)) (y : Str) (Q : Flow → Shared → Prop) (xv : Value) (s₁ : Shared) : Prop :=
  ∃ (I J : Addr) (text : Str) (tt : Tok) (g : Nat → Int) (news : List (Addr × Obj)), xv = .ref I ∧ A.handled = none ∧ text.cps.size ≤ sizeLine ∧ I ≠ J ∧ IsEnum s₁.heap I J 0 .none ∧ s₁.heap.IsStrIter J "str_ascii_iterator" text tt 0 ∧
    Fr h₀ L s₁.heap m ∧ News h₀ L s₁.heap news ∧ L ≠ I ∧ L ≠ J ∧ h₀.get? I = none ∧ h₀.get? J = none ∧ (∀ p ∈ news, p.1 ≠ I ∧ p.1 ≠ J) ∧
    (∀ h, EnElt prog w A h₀ L m env elt x x₂ scope cl { s₁ with heap := h } text.cps g news) ∧
    (∀ D h tk ys, Fr h₀ L h (fun z => if z = y then some (.ref D) else m z) → News h₀ L h ((D, LCg.lst ys) :: news) → ys.length = text.cps.size → AllG g ys → Q .next { s₁ with heap := h, toks := tk })

theorem wpAny_pyIter_en {I J : Addr} {Q : Value → Shared → Prop} (hit : IsEnum s.heap I J 0 .none) (h : Q (.ref I) s) : wpAny (model prog w) A (pyIter (.ref I)) Q E s := wpAny_pyIter_enum hit (by first | exact h | exact ⟨_, rfl, h⟩)

theorem Assign_enum {elt iter : Expr} {x x₂ y : Str} {px px₂ tp py : Pos} {kk : Nat} {scope : Scope} {cl : List (Str × Addr)} {pos spos : Pos} {Q : Flow → Shared → Prop} (F₀ : Fr h₀ L s.heap m) (hLe : env.locals = L)
    (hsw : swapsWith (.ListComp elt [⟨.Tuple [.Name x px, .Name x₂ px₂] kk tp, iter, [], 0⟩] scope pos) (some (.Name y py)) spos.line env = pure true)
    (hclos : closureFor scope env = pure cl) (hcell : ∀ z ∈ scope.names, z.2 ≠ .cell) (hkind : scope.kind = .function)
    (hnames : ∀ z ∈ scope.names, z.2 = .local → scope.names.lookup z.1 = some .local) (hx : scope.names.lookup x = some .local) (hx₂ : scope.names.lookup x₂ = some .local) (hxx : x ≠ x₂)
    (hy : env.kindOf y = some .local) (hp : (env.scope.kind == .class || (env.scope.kind == .module && env.locals != env.globals)) = false)
    (h : wpAny (model prog w) A (eval iter env) (SrcEn prog w A h₀ L m env elt x x₂ scope cl y Q) E s)
    (hs : ∀ x, foldedSetIterable iter env x = pure x := by intro _; rfl) :
    wpAny (model prog w) A (exec (.Assign [.Name y py] (.ListComp elt [⟨.Tuple [.Name x px, .Name x₂ px₂] kk tp, iter, [], 0⟩] scope pos) spos) env) Q E s := by
  subst hLe
  rw [exec_Assign_Name_used _ _ _ _ hsw]
  refine wpAny_bind (wpAny_standAt (wpAny_bind ?_))
  show wpAny _ A (do let _ ← comprehension (.ListComp elt [⟨.Tuple [.Name x px, .Name x₂ px₂] kk tp, iter, [], 0⟩] scope pos) scope env _ (newList []) false (eval iter env) (some (assign (.Name y py) env))) _ _ s
  refine wpAny_bind (wpAny_mono (wpAny_comprehension_free (use := some (assign (.Name y py) env)) (Q := fun _ s' => Q .next s') rfl hs hclos hkind hnames
    (wpAny_mono h (fun xv s₁ h₁ => ?_) fun _ _ e => e)) (fun _ s' hq => wpAny_pure (wpAny_pure hq)) fun _ _ e => e)
  obtain ⟨I, J, text, tt, g, news, rfl, hh, hsz, hIJ, hit, hst, F, N, hIL, hJL, hI₀, hJ₀, off, R, hQ⟩ := h₁
  refine wpAny_pyIter_en hit ?_
  refine enum_block hh hsz hIJ hit hst hcell hkind hx hx₂ hxx F N hIL hJL hI₀ hJ₀ off (R _) ?_
  intro D C h' tk m' ys F' N' hn hC₀ hD₀ hCL hDL hCD offC hyl G
  show wpAny _ A (assign (.Name y py) env (.ref D)) _ _ _
  refine wpAny_assign_Name (wpAny_storeName_local hy F'.ns (fun h₂ hn₂ hs₂ => ?_) hp)
  have hL₀ : h₀.get? env.locals = none := Heap.get?_none_of_le F'.above
  have F₂ : Fr h₀ env.locals h₂ (fun z => if z = y then some (.ref D) else m z) := ⟨hn₂, fun b o e => hs₂.extBut b o (fun q => by rw [q, hL₀] at e; cases e) (F'.keep b o e), F'.above⟩
  refine ⟨m', hn.sameBut hs₂ hCL, fun h'' hs'' => hQ D h'' _ ys (F₂.change hs'' hCL hC₀) (fun p hp => ?_) hyl G⟩
  have z : h₂.get? p.1 = some p.2 := hs₂.extBut _ _ (N' p hp).2.1 (N' p hp).1
  refine ⟨hs''.extBut _ _ ?_ z, (N' p hp).2⟩
  rcases List.mem_cons.mp hp with rfl | hp
  · exact Ne.symm hCD
  · exact offC p hp

theorem enum_src {elt : Expr} {x x₂ y : Str} {scope : Scope} {cl : List (Str × Addr)} {Q : Flow → Shared → Prop} {text : Str} {tt : Tok} (g : Nat → Int) {news : List (Addr × Obj)}
    (hh : A.handled = none) (ha : text.cps.all (· < 128) = true) (hsz : text.cps.size ≤ sizeLine) (F : Fr h₀ L s.heap m) (N : News h₀ L s.heap news)
    (R : ∀ h, EnElt prog w A h₀ L m env elt x x₂ scope cl { s with heap := h } text.cps g news)
    (hQ : ∀ D h tk ys, Fr h₀ L h (fun z => if z = y then some (.ref D) else m z) → News h₀ L h ((D, LCg.lst ys) :: news) → ys.length = text.cps.size → AllG g ys → Q .next { s with heap := h, toks := tk }) :
    wpAny (model prog w) A (call (.type "enumerate") [.str text tt]) (SrcEn prog w A h₀ L m env elt x x₂ scope cl y Q) E s := by
  refine call_enumerate_str fun h' he hi hz up => ?_
  have hty : strIterType text = "str_ascii_iterator" := by unfold strIterType; rw [if_pos ha]
  rw [hty] at hi
  have fresh₀ : ∀ a, s.heap.objs.size ≤ a → h₀.get? a = none := fun a ha => by
    cases e : h₀.get? a with
    | none => rfl
    | some o' => exact absurd (Heap.lt_size (F.keep a o' e)) (Nat.not_lt.mpr ha)
  refine ⟨_, _, text, tt, g, news, rfl, hh, hsz, Nat.succ_ne_self _, he, hi, F.keeps up, N.grown up, Nat.ne_of_lt (Nat.lt_succ_of_lt F.ns.lt), Nat.ne_of_lt F.ns.lt, fresh₀ _ (Nat.le_succ _), fresh₀ _ (Nat.le_refl _), fun p hp => ?_, fun h => R h, fun D h tk ys => hQ D h tk ys⟩
  have := Heap.lt_size (N p hp).1
  exact ⟨Nat.ne_of_lt (Nat.lt_succ_of_lt this), Nat.ne_of_lt this⟩
end
end Mine
end

section
set_option maxRecDepth 100000
set_option maxHeartbeats 8000000
open PySem PySem.W PySem.Spec PySem.Calls PyProof.Rows PySem.NumText
namespace Mine
/-- The value of digits, the least one first. -/
def lowVal : List Nat → Nat
  | [] => 0
  | c :: r => (c - 48) + 10 * lowVal r
theorem lowVal_snoc : ∀ (l : List Nat) (c : Nat), lowVal (l ++ [c]) = lowVal l + (c - 48) * 10 ^ l.length
  | [], c => by simp [lowVal]
  | d :: r, c => by
    have := lowVal_snoc r c
    show d - 48 + 10 * lowVal (r ++ [c]) = d - 48 + 10 * lowVal r + (c - 48) * 10 ^ (r.length + 1)
    rw [this, Nat.pow_succ]
    generalize 10 ^ r.length = k
    rw [Nat.mul_add, Nat.mul_left_comm, Nat.mul_comm 10 k]
    omega
theorem lowVal_reverse : ∀ l : List Nat, lowVal l.reverse = digitsVal l := by
  intro l
  suffices ∀ r : List Nat, lowVal r = digitsVal r.reverse by rw [this, List.reverse_reverse]
  intro r
  induction r with
  | nil => rfl
  | cons c r ih =>
    rw [List.reverse_cons, digitsVal_snoc, ← ih]
    show c - 48 + 10 * lowVal r = _
    omega
def digG (a : Int) (cps : Array Nat) (i : Nat) : Int := a * ((cps.getD i 48 : Int) - 48) * 10 ^ i
theorem preSum_dig (a : Int) (cps : Array Nat) (hc : ∀ c ∈ cps.toList, 48 ≤ c ∧ c ≤ 57) : ∀ k, k ≤ cps.size → preSum (digG a cps) k = a * (lowVal (cps.toList.take k) : Nat)
  | 0, _ => by simp [preSum, lowVal]
  | k + 1, hk => by
    have hk' : k < cps.toList.length := by rw [Array.length_toList]; omega
    have e : cps.toList.take (k + 1) = cps.toList.take k ++ [cps.toList[k]] := List.take_succ_eq_append_getElem hk'
    have hr := hc _ (List.getElem_mem hk')
    show preSum (digG a cps) k + digG a cps k = _
    rw [preSum_dig a cps hc k (by omega), e, lowVal_snoc, List.length_take, Nat.min_eq_left (by omega)]
    have eg : cps.getD k 48 = cps.toList[k] := by simp [Array.getD, show k < cps.size by omega]
    unfold digG
    rw [eg, Int.natCast_add, Int.natCast_mul, Int.natCast_pow]
    generalize cps.toList[k] = c at hr
    have ec : ((c - 48 : Nat) : Int) = (c : Int) - 48 := by omega
    rw [ec, Int.mul_add, Int.mul_assoc]
    rfl
theorem rev_list (x : Str) (u : Tok) : (Txt.sliceBy x none none (-1, u)).cps.toList = x.cps.toList.reverse := by
  rw [step_rev_list]
  have hl : x.cps.toList.length = x.length := Array.length_toList
  apply List.ext_getElem
  · simp [hl]
  · intro i h1 h2
    have h3 : i < x.length := by simpa using h1
    simp only [List.getElem_map, List.getElem_range, List.getElem_reverse, hl]
    have h5 : x.cps.size = x.length := rfl
    have h4 : x.length - 1 - i < x.cps.size := by omega
    simp [Array.getD, h4]
theorem rev_dig (n : Nat) (u : Tok) : (Txt.sliceBy (Str.ofString (toString (n : Int))) none none (-1, u)).cps.toList = ((Nat.toDigits 10 n).map Char.toNat).reverse := by
  rw [rev_list, KIN.signs_num]
theorem rev_digits (n : Nat) (u : Tok) : ∀ c ∈ (Txt.sliceBy (Str.ofString (toString (n : Int))) none none (-1, u)).cps.toList, 48 ≤ c ∧ c ≤ 57 := by
  rw [rev_dig]
  intro c hc
  rw [List.mem_reverse] at hc
  obtain ⟨ch, hch, e⟩ := List.mem_map.mp hc
  have r := digit_range (Nat.isDigit_of_mem_toDigits (by decide) (by decide) hch)
  rw [← e]
  exact r
theorem rev_val (n : Nat) (u : Tok) : lowVal (Txt.sliceBy (Str.ofString (toString (n : Int))) none none (-1, u)).cps.toList = n := by
  rw [rev_dig, lowVal_reverse, KIN.val_back]
theorem rev_size (n : Nat) (u : Tok) (hn : (n : Int) < 10 ^ 20) : (Txt.sliceBy (Str.ofString (toString (n : Int))) none none (-1, u)).cps.size ≤ 20 := by
  have h := step_rev_len (Str.ofString (toString (n : Int))) u
  have h2 : (Str.ofString (toString (n : Int))).length ≤ 20 := toString_length_le (by omega) (by decide) hn
  rw [← h] at h2
  exact h2
section
variable {prog : Program} {w : World} {A : Around} {E : Value → Shared → Prop} {s : Shared} {h₀ : Heap} {L : Addr} {m : Str → Option Value} {env : Env}
theorem all_ints {g : Nat → Int} {ys : List Value} (G : AllG g ys) : ∃ xs : Array (Int × Tok), ys.toArray = intItems xs ∧ xs.size = ys.length ∧ ∀ i, i < ys.length → numAt xs i = g i := by
  have hall : AllInts ys.toArray := by
    intro v hv
    obtain ⟨i, hi, e⟩ := List.getElem_of_mem (by simpa using hv : v ∈ ys)
    obtain ⟨t, et⟩ := G i hi
    rw [List.getElem?_eq_getElem hi, e] at et
    exact ⟨g i, t, Option.some.inj et⟩
  obtain ⟨xs, hx⟩ := hall.items
  have hs : xs.size = ys.length := by
    have := congrArg Array.size hx
    simpa [intItems] using this.symm
  refine ⟨xs, hx, hs, fun i hi => ?_⟩
  obtain ⟨t, et⟩ := G i hi
  have e2 : (intItems xs)[i]? = some (.int (g i) t) := by rw [← hx]; simpa using et
  obtain ⟨t', e3⟩ := intItems_at e2
  injection e3 with e4 _
  exact e4.symm
theorem preSum_same {f g : Nat → Int} : ∀ n, (∀ i, i < n → f i = g i) → preSum f n = preSum g n
  | 0, _ => rfl
  | n + 1, h => by
    show preSum f n + f n = preSum g n + g n
    rw [preSum_same n fun i hi => h i (by omega), h n (by omega)]
theorem sum_rows {g : Nat → Int} {ys : List Value} {D : Addr} {news : List (Addr × Obj)} {Q : Value → Shared → Prop} {v : Int} (hv : preSum g ys.length = v) (G : AllG g ys) (hh : A.handled = none) (F : Fr h₀ L s.heap m) (N : News h₀ L s.heap news) (hm : (D, LCg.lst ys) ∈ news)
    (h : ∀ h' tk t, Fr h₀ L h' m → News h₀ L h' news → Q (.int v t) { s with heap := h', toks := tk }) : wpAny (model prog w) A (call (.builtin "sum") [.ref D]) Q E s := by
  obtain ⟨xs, hx, hs, hg⟩ := all_ints G
  have hl : s.heap.IsList D (intItems xs) := by rw [← hx]; exact ⟨_, (N _ hm).1, rfl, _, rfl⟩
  refine sum_intListG hh hl fun h' tk t' hk => ?_
  have e : preSum (numAt xs) xs.size = v := by rw [hs, preSum_same _ hg, hv]
  rw [e]
  exact h h' tk t' (F.keeps hk) (N.grown hk)
theorem int_sign {c : Nat} {u : Tok} {Q : Value → Shared → Prop} (h0 : 48 ≤ c) (h1 : c ≤ 57) (h : Q (.int ((c : Int) - 48) s.toks) { s with toks := s.toks + 1 }) : wpAny (model prog w) A (call (.type "int") [.str ⟨#[c]⟩ u]) Q E s := by
  refine KIN.call_text (n := (c : Int) - 48) ?_ (by decide : 1 ≤ 640) h
  have hd : AllDigits (⟨#[c]⟩ : Str).cps.toList := by
    intro d hd
    have : d = c := by simpa using hd
    subst this
    exact ⟨h0, h1⟩
  have e := intText_digits hd (by simp) (by decide : (1 : Nat) ≤ 4300)
  rw [e]
  show some (((0 * 10 + (c - 48) : Nat)) : Int) = _
  congr 1
  omega
theorem pow10 {b : Int} {t u : Tok} {Q : Value → Shared → Prop} (h0 : 0 ≤ b) (h1 : b ≤ 19) (h : ∀ r : Int, r = 10 ^ b.toNat → 1 ≤ r → r ≤ 10000000000000000000 → Q (.int r s.toks) { s with toks := s.toks + 1 }) : wpAny (model prog w) A (binaryOp .Pow (.int 10 t) (.int b u)) Q E s := by
  have hp : (1 : Int) ≤ 10 ^ b.toNat ∧ (10 : Int) ^ b.toNat ≤ 10000000000000000000 := by
    have h3 : 10 ^ b.toNat ≤ 10000000000000000000 := Nat.pow_le_pow_right (n := 10) (j := 19) (by decide) (by omega)
    have h4 : 1 ≤ 10 ^ b.toNat := Nat.one_le_pow _ _ (by decide)
    have h5 : ((10 ^ b.toNat : Nat) : Int) = (10 : Int) ^ b.toNat := by simp
    generalize 10 ^ b.toNat = k at h3 h4 h5
    rw [← h5]
    omega
  exact pow_int_small h0 (by omega) (by decide) (h _ rfl hp.1 hp.2)
theorem enum_dig {elt : Expr} {x x₂ y : Str} {scope : Scope} {cl : List (Str × Addr)} {Q : Flow → Shared → Prop} {v : Int} {u tt : Tok} (a : Int) {news : List (Addr × Obj)}
    (hh : A.handled = none) (hv : 0 ≤ v) (hv2 : v < 18446744073709551620) (F : Fr h₀ L s.heap m) (N : News h₀ L s.heap news)
    (R : ∀ (hp0 : Heap) (i c : Nat) (t u : Tok) (I J C D : Addr) (oI oJ oC oD : Obj) (m₂ : Str → Option Value) (h : Heap) (tk : Nat) (Q E' : Value → Shared → Prop), 48 ≤ c → c ≤ 57 → i ≤ 19 → LCg.NsObj oC m₂ → m₂ x = some (.int (i : Int) t) → m₂ x₂ = some (.str ⟨#[c]⟩ u) →
      Fr h₀ L h m → News h₀ L h ((I, oI) :: (J, oJ) :: (C, oC) :: (D, oD) :: news) →
      (∀ (h' : Heap) (tk' : Nat) (t' : Tok), Fr h₀ L h' m → News h₀ L h' ((I, oI) :: (J, oJ) :: (C, oC) :: (D, oD) :: news) → Q (.int (a * ((c : Int) - 48) * 10 ^ i) t') { s with heap := h', toks := tk' }) →
      wpAny (model prog w) A (eval elt (compEnvC scope cl C env)) Q E' { s with heap := h, toks := tk })
    (hQ : ∀ D h tk ys g, Fr h₀ L h (fun z => if z = y then some (.ref D) else m z) → News h₀ L h ((D, LCg.lst ys) :: news) → preSum g ys.length = a * v → AllG g ys → Q .next { s with heap := h, toks := tk }) :
    wpAny (model prog w) A (call (.type "enumerate") [.str (Txt.sliceBy (Str.ofString (toString v)) none none (-1, u)) tt]) (SrcEn prog w A h₀ L m env elt x x₂ scope cl y Q) E s := by
  obtain ⟨n, rfl⟩ := Int.eq_ofNat_of_zero_le hv
  have hd := rev_digits n u
  have hs := rev_size n u (by omega)
  have hval := rev_val n u
  generalize Txt.sliceBy (Str.ofString (toString (n : Int))) none none (-1, u) = text at hd hs hval ⊢
  refine enum_src (digG a text.cps) hh ?_ (Nat.le_trans hs (by decide)) F N (fun hp => ?_) (fun D h tk ys F' N' hyl G => ?_)
  · rw [Array.all_eq_true_iff_forall_mem]
    intro c hc
    have := hd c (by simpa using hc)
    simp
    omega
  · intro i c t u' I J C D oI oJ oC oD m₂ h tk Q' E' hc hC hx hx2 F' N' k
    have hi : i < text.cps.size := by
      rcases Nat.lt_or_ge i text.cps.size with q | q
      · exact q
      · rw [Array.getElem?_eq_none q] at hc; cases hc
    have hcm : c ∈ text.cps.toList := by
      rw [Array.getElem?_eq_getElem hi] at hc
      rw [← Option.some.inj hc]
      exact Array.mem_toList_iff.mpr (Array.getElem_mem hi)
    have hcd := hd c hcm
    refine R hp i c t u' I J C D oI oJ oC oD m₂ h tk Q' E' hcd.1 hcd.2 (by omega) hC hx hx2 F' N' fun h' tk' t' F'' N'' => ?_
    have e : digG a text.cps i = a * ((c : Int) - 48) * 10 ^ i := by
      unfold digG
      rw [Array.getElem?_eq_getElem hi] at hc
      simp [Array.getD, hi, Option.some.inj hc]
    have := k h' tk' t' F'' N''
    rw [e] at this
    exact this
  · refine hQ D h tk ys _ F' N' ?_ G
    rw [hyl, preSum_dig a text.cps hd _ (Nat.le_refl _), ← Array.length_toList, List.take_of_length_le (Nat.le_refl _), hval]
end
end Mine
end

section
set_option maxRecDepth 100000
set_option maxHeartbeats 8000000
open PySem PySem.W PySem.Spec PySem.Calls PyProof.Rows
namespace Mine
local macro_rules | `(tactic| walk_at "mine enter") => `(tactic| (refine' code_def ?k1 ?k2 ?k3 ?k4 ?k5 ?kA ?kF ?kK ?k6 ?k7 ?k8 ?k9 ?kB ?_ ?c2 ?c3 ?c4 ?c5; (case kA => exact rfl); (case kF => exact rfl); (case kK => first | exact rfl | assumption); (case k1 => k_asm); (case k2 => k_asm); (case k3 => k_asm); (case k4 => k_asm); (case k5 => k_asm); (case k6 => k_is); (case k7 => k_is); (case k8 => ktr_room); (case k9 => first | exact BindsTo.of_eq rfl | exact binds_K (by k_in) rfl (by k_is) rfl rfl rfl); (case c5 => decide); (case kB => exact locs rfl); (case c2 => exact rfl); (case c3 => exact rfl); (case c4 => exact rfl); k_whole; intro g' L' h' FG' F' N' B' X' T'; (try dsimp only); (try k_lift B'); (try k_fold)))
local macro_rules | `(tactic| walk_at "mine enterC") => `(tactic| (refine' code_defC ?k1 ?k2 ?k3 ?k4 ?k5 ?kA ?kF ?kK ?k6 ?k7 ?k8 ?k9 ?kB ?kD ?_ ?c2 ?c3 ?c4; (case kA => exact rfl); (case kF => exact rfl); (case kK => first | exact rfl | assumption); (case k1 => k_asm); (case k2 => k_asm); (case k3 => k_asm); (case k4 => k_asm); (case k5 => k_asm); (case k6 => k_is); (case k7 => k_is); (case k8 => ktr_room); (case k9 => first | exact BindsTo.of_eq rfl | exact binds_K (by k_in) rfl (by k_is) rfl rfl rfl); (case kB => exact rfl); (case kD => decide +kernel); (case c2 => exact rfl); (case c3 => exact rfl); (case c4 => exact rfl); k_whole; intro g' L' h' tk' cells' FG' F' N' Y' B' X' T' l1; (try k_lt l1); k_cells Y'; (try simp only [List.cons_append, List.nil_append] at N'); (try dsimp only); (try k_lift B'); (try k_fold)))
local macro_rules | `(tactic| walk_at "eval Call") => `(tactic| k_dflt (refine Call_ ?_))
local macro_rules | `(tactic| walk_at "ite") => `(tactic| first
  | (refine ite_pos ?kite ?_; (case kite => first | assumption | (simp only [beq_iff_eq, bne_iff_ne, decide_eq_true_eq, Bool.not_eq_true', beq_eq_false_iff_ne, decide_eq_false_iff_not] ; omega)))
  | (refine ite_neg ?kite ?_; (case kite => first | assumption | (simp only [beq_iff_eq, bne_iff_ne, decide_eq_true_eq, Bool.not_eq_true', beq_eq_false_iff_ne, decide_eq_false_iff_not] ; omega))))
local macro_rules | `(tactic| walk_at "binaryOp Mult int int") => `(tactic| (k_here; (with_reducible refine mul_mid ?kb ?kc ?_); (case kb => omega); (case kc => omega); intro r9 hr9))
local macro_rules | `(tactic| walk_at "call ref") => `(tactic| (k_here; k_dflt (refine wpAny_call ?_; walk_at "mine enter")))
local macro_rules | `(tactic| walk_at "binaryOp Mult int int") => `(tactic| (k_here; k_dflt (refine mul_mid ?kb ?kc ?_); (case kb => omega); (case kc => omega); intro r9 hr9))
local macro_rules | `(tactic| walk_at "exec Assign cons ListComp") => `(tactic| (k_here; lcg_calm; k_dflt (refine Assign_enum (F₀ := by k_asm) (by rfl) (by with_unfolding_all rfl) (by with_unfolding_all rfl) (by decide) (by rfl) (by decide) (by rfl) (by rfl) (by decide) (by rfl) (by rfl) ?_)))
local macro_rules | `(tactic| walk_at "call type:int") => `(tactic| (k_here; k_dflt (refine' int_sign ?k1 ?k2 ?_; (case k1 => assumption); (case k2 => assumption))))
local macro_rules | `(tactic| walk_at "binaryOp Pow int int") => `(tactic| (k_here; k_dflt (refine pow10 ?kb ?kc ?_); (case kb => omega); (case kc => omega); intro r9 hr9 hr9a hr9b))
local macro_rules | `(tactic| walk_at "binaryOp Mult int int") => `(tactic| (k_here; k_dflt (refine mul_small ?kb ?kc ?_); (case kb => omega); (case kc => omega); intro r9 hr9))
local macro_rules | `(tactic| walk_at "call builtin:sum") => `(tactic| (k_here; k_dflt (refine' sum_rows ?k1 ?k2 ?k3 ?k4 ?k5 ?k6 ?_; (case k1 => assumption); (case k2 => assumption); (case k3 => exact rfl); (case k4 => k_asm); (case k5 => k_asm); (case k6 => k_mem); intro h9 tk9 t9 F9 N9)))
theorem right_mul (a b : Int) (to ta tb : Tok) (news : List (Addr × Obj)) (ha : a.natAbs < 18446744073709551620) (hb : b.natAbs < 18446744073709551620) :
    Says 6 122 news [.str (Str.ofString "*") to, .int a ta, .int b tb] fun r news' => r = .bool true ∧ ∀ p ∈ news, p ∈ news' := by
  unfold Says
  k_fill
  intro w mean mg mb dp un gd cn cs ad ccd cl outer A₀ base h₀ L m s Q E B F X N T hk hd hu hret
  refine wpAny_call ?_
  k_dflt walk_at "mine enterC"
  repeat' (first | (fail_if_success (with_reducible show wpAny _ _ (call (Value.type "enumerate") _) _ _ _)); first | (k_unfold; (try dsimp only)) | walk1 | (dsimp only; walk1))
  k_dflt (refine' enum_dig a ?k1 ?k2 ?k3 ?k4 ?k5 ?k6 ?k7)
  case k1 => exact rfl
  case k2 => split <;> omega
  case k3 => split <;> omega
  case k4 => k_asm
  case k5 => k_asm
  case k6 =>
    intro hp i c t u I J C D oI oJ oC oD m₂ h tk Q' E' h1 h2 h3 hC hx hx2 F' N' hend
    k_steps
    subst_vars
    exact hend _ _ _ (by assumption) (by assumption)
  case k7 =>
    intro D h tk ys g F' N' hsum G
    k_steps
    · refine' hret _ _ _ _ ?ea ?eb ?ec
      case eb => k_asm
      case ec => k_asm
      case ea =>
        refine ⟨?_, fun p hp => by repeat (first | exact hp | apply List.mem_cons_of_mem)⟩
        subst_vars
        rw [if_neg (by omega)]
        exact congrArg Value.bool (beq_self_eq_true _)
    · refine' hret _ _ _ _ ?ea ?eb ?ec
      case eb => k_asm
      case ec => k_asm
      case ea =>
        refine ⟨?_, fun p hp => by repeat (first | exact hp | apply List.mem_cons_of_mem)⟩
        subst_vars
        rw [if_pos (by omega), Int.mul_neg, Int.zero_sub, Int.neg_neg]
        exact congrArg Value.bool (beq_self_eq_true _)
end Mine
end

section
set_option maxRecDepth 100000
set_option maxHeartbeats 8000000
open PySem PySem.W PySem.Spec PySem.Calls PyProof.Rows Builtin Builtin.ObjectAttr
namespace Mine
/-- The object of an exception that `__new__` has made: no dict yet. -/
abbrev excO (C t : Addr) (dx : Option Addr) : Obj := { cls := .ref C, dict := dx, data := .fields #[.ref t, .none, .none, .none, .bool false, .none] }
abbrev tupO (vs : List Value) : Obj := { cls := .type "tuple", data := .seq vs.toArray }
section
variable {prog : Program} {w : World} {A : Around} {E : Value → Shared → Prop} {R : Result → Shared → Prop} {h : Heap} {g : Array GenState} {d : Drawn} {t : Nat} {os : OsState}
variable {nm q : Str} {C N : Addr} {bs bm bm0 : List Value} {hdct : Bool} {sn : List Str} {sub : List Value} {ab : Bool} {col : Option Bool} {dd : Option Addr} {k0 k1 k2 k3 k5 : Option Value}

/-- `Exception.__new__` for a class whose line runs over classes of the program. -/
theorem new_own (F : ExcBaseFacts "Exception" "Exception.__new__" "Exception.__init__" bm0) {rest : List Value}
    (hC : h.get? C = some (excClassObj nm q C N bs bm hdct sn sub ab col dd k0 k1 k2 k3 k5 "Exception.__new__"))
    (hcB : (Value.ref C :: bm).contains (.type "Exception") = true) (hcA : (Value.ref C :: bm).contains (.type "AttributeError") = false) (hcN : (Value.ref C :: bm).contains (.type "NameError") = false)
    (hq : R (.ok (.ret (.ref (h.objs.size + 1)))) ⟨(h.push (tupO rest)).push (excO C h.objs.size none), g, d, t, os⟩) (hrest : rest.length ≤ sizeLine) :
    codeAny (model prog w) A (.call (.builtin "Exception.__new__") ⟨.ref C :: rest, []⟩) R ⟨h, g, d, t, os⟩ := by
  refine codeAny_call_builtin_code (Code.quiet_builtin _ F.quiet) ?_
  have hstar := F.noStar
  simp only [checkBuiltinCall, F.newKind, F.newSplit, F.newRow]
  repeat (first
    | refine wpAny_loadPart_at hC ?_
    | (refine wpAny_isSubtype_exc hC ?_; rw [hcB])
    | refine wpAny_staticBase_exc hC ?_
    | refine wpAny_madeBy_exc hC ?_
    | simp only [bne_self_eq_false, Bool.false_eq_true, if_false]
    | wp_step)
  have hends := F.ends
  refine codeAny_builtinAt F.entry ?_
  unfold Builtin.«BaseException.__new__»
  refine PySem.wpAt_bind ?_
  show PySem.wpAt _ _ _ (stack >>= _) _ _ _
  refine PySem.wpAt_bind (PySem.wpAt_stack fun p below => PySem.wpAt_of_wpAny ?_)
  wp_walk
  refine PySem.wpAt_of_wpAny ?_
  rw [F.owner]
  repeat (first
    | with_reducible refine wpAny_madeHere_exc F.canon hC ?_
    | with_reducible refine wpAny_loadPart_at hC ?_
    | (with_reducible refine wpAny_isSubtype_exc hC ?_; first | rw [hcB] | rw [hcA] | rw [hcN])
    | wp_step)
  show R _ _
  rw [Heap.size_push]
  exact hq

/-- Calling a class of exceptions that has an `__init__` of the program. -/
theorem make_own (F : ExcBaseFacts "Exception" "Exception.__new__" "Exception.__init__" bm0) {rest : List Value} {fI : Addr}
    (hC : h.get? C = some (excClassObj nm q C N bs bm hdct sn sub ab col dd k0 k1 k2 k3 k5 "Exception.__new__"))
    (hcB : (Value.ref C :: bm).contains (.type "Exception") = true) (hcA : (Value.ref C :: bm).contains (.type "AttributeError") = false) (hcN : (Value.ref C :: bm).contains (.type "NameError") = false)
    (hi : Looks (model prog w) h (typeLookup (.ref C) "__init__") (some (.ref fI))) (hb : ∀ self, Looks (model prog w) h (bindSpecial (.ref fI) self) (.ref fI, [self]))
    (hrest : rest.length ≤ sizeLine)
    (hq : codeAny (model prog w) (A.under (.builtin "type.__call__" ⟨.ref C :: rest, []⟩)) (.call (.ref fI) ⟨.ref (h.objs.size + 1) :: rest, []⟩) (InitBack (h.objs.size + 1) R) ⟨(h.push (tupO rest)).push (excO C h.objs.size none), g, d, t, os⟩) :
    codeAny (model prog w) A (.call (.ref C) ⟨rest, []⟩) R ⟨h, g, d, t, os⟩ := by
  have f1 := tc_lookup
  have f2 := tc_bind (.ref C)
  have hT : (⟨h, g, d, t, os⟩ : Shared).TypeIs (.ref C) "type" := ⟨_, hC, rfl⟩
  refine codeAny_of_tree ?_
  show wpAny _ _ (callAny (.ref C) _) _ _ _
  repeat (any_goals (first | assumption | with_reducible refine wpAny_loadPart_at hC ?_ | wp_step))
  refine ⟨rfl, ?_⟩
  refine codeAny_call_builtin_at (Code.quiet_builtin _ (by decide +kernel)) entry_typeCall (wpAny_check_type_call_sub hC ?_)
  repeat (first | with_reducible refine wpAny_loadPart_at hC ?_ | with_reducible refine wpAny_madeBy_exc hC ?_ | wp_step)
  refine new_own F hC hcB hcA hcN ?_ hrest
  have k : ∀ b o, h.get? b = some o → ((h.push (tupO rest)).push (excO C h.objs.size none)).get? b = some o := fun b o e => Heap.get?_push_of_some _ (Heap.get?_push_of_some _ e)
  have hC₁ := k _ _ hC
  have hget : ((h.push (tupO rest)).push (excO C h.objs.size none)).get? (h.objs.size + 1) = some (excO C h.objs.size none) := by heap_get
  have hcC : (Value.ref C :: bm).contains (.ref C) = true := by simp
  have i1 := hi.keeps k
  have b1 := (hb (.ref (h.objs.size + 1))).keeps k
  show wpAny _ _ _ _ _ _
  unfold isInstance
  repeat (first | with_reducible refine wpAny_loadPart_at hget ?_ | (show wpAny _ _ (isSubtype (.ref C) _) _ _ _; refine wpAny_isSubtype_exc hC₁ ?_; rw [hcC]) | wp_step)
  show wpAny _ _ (typeLookup (.ref C) _) _ _ _
  refine i1.at ?_
  refine wpAny_holding (wpAny_bind (b1.at ?_))
  refine wpAny_bind (wpAny_call ?_)
  refine codeAny_mono hq fun r s' z => ?_
  rcases r with e | (v | _ | _ | _) <;> first | exact z | exact z.elim | skip
  obtain ⟨rfl, z⟩ := z
  wp_walk
  exact z
end
def ownExcIn (K : Frag) (C : Addr) : Bool := match K.lookup C with
  | some ⟨.type "type", _, .cls cd, sl⟩ => (match cd.mro, sl.toList with
    | .ref C' :: bm, [_, _, _, _, some (.builtin n), _] => C' == C && !cd.hasDel && cd.hasDict && n == "Exception.__new__" && (Value.ref C :: bm).contains (.type "Exception") && !(Value.ref C :: bm).contains (.type "AttributeError") && !(Value.ref C :: bm).contains (.type "NameError")
    | _, _ => false)
  | _ => false
theorem ownExc_cls {K : Frag} {h : Heap} {C : Addr} (X : K.In h) (q : ownExcIn K C = true) : ∃ nm qn N bs bm sn sub ab col dd k0 k1 k2 k3 k5,
    h.get? C = some (excClassObj nm qn C N bs bm true sn sub ab col dd k0 k1 k2 k3 k5 "Exception.__new__") ∧ (Value.ref C :: bm).contains (.type "Exception") = true ∧ (Value.ref C :: bm).contains (.type "AttributeError") = false ∧ (Value.ref C :: bm).contains (.type "NameError") = false := by
  unfold ownExcIn at q
  split at q
  · rename_i dd cd sl ho
    split at q
    · rename_i C' bm k0 k1 k2 k3 n k5 hm hs
      simp only [Bool.and_eq_true, beq_iff_eq, Bool.not_eq_true'] at q
      obtain ⟨⟨⟨⟨⟨⟨rfl, hdel⟩, hdict⟩, rfl⟩, hb⟩, ha⟩, hn⟩ := q
      obtain ⟨nm, bs, mro, ns, qn, hd, sn, sub, ab, col, del⟩ := cd
      dsimp only at hm hdel hdict
      subst hm hdel hdict
      have hsl : sl = #[k0, k1, k2, k3, some (.builtin "Exception.__new__"), k5] := by
        obtain ⟨l⟩ := sl
        simp only at hs
        rw [hs]
      subst hsl
      exact ⟨nm, qn, ns, bs, bm, sn, sub, ab, col, dd, k0, k1, k2, k3, k5, X _ _ ho, hb, ha, hn⟩
    · cases q
  · cases q
section
variable {prog : Program} {w : World} {A : Around} {E : Value → Shared → Prop} {s : Shared} {K : Frag} {h₀ : Heap} {L C : Addr} {m : Str → Option Value} {news : List (Addr × Obj)} {Q : Value → Shared → Prop}
theorem call_exc {pos : List Value} {fI : Addr} (F : Fr h₀ L s.heap m) (X₀ : K.In h₀) (N : News h₀ L s.heap news) (hm : ownExcIn K C = true) (hi : findIn K (.ref C) "__init__" = some (some (.ref fI))) (hf : isFn K (.ref fI) = true) (hz : pos.length ≤ sizeLine)
    (h : ∀ e t h', Fr h₀ L h' m → News h₀ L h' ((e, excO C t none) :: (t, tupO pos) :: news) → (∀ p ∈ news, p.1 < t) → t < e →
      codeAny (model prog w) (A.under (.builtin "type.__call__" ⟨.ref C :: pos, []⟩)) (.call (.ref fI) ⟨.ref e :: pos, []⟩) (InitBack e fun r s' => match r with | .ok (.ret v) => Q v s' | .ok _ => False | .error e => E e s') { s with heap := h' }) :
    wpAny (model prog w) A (call (.ref C) pos) Q E s := by
  obtain ⟨hh, g, d, t, os⟩ := s
  have X := X₀.keeps F.keep
  obtain ⟨nm, qn, N', bs, bm, sn, sub, ab, col, dd, k0, k1, k2, k3, k5, hC, hb, ha, hn⟩ := ownExc_cls X hm
  refine wpAny_call (make_own PySem.F.excBase_Exception hC hb ha hn (looks_findIn X hi) (fun self => bind_fn X self (beq_iff_eq.mp hf)) hz ?_)
  refine h _ hh.objs.size _ ((F.push _).push _) ?_ (fun p hp => Heap.lt_size (N p hp).1) (Nat.lt_succ_self _)
  have := (N.push F (tupO pos)).push (F.push _) (excO C hh.objs.size none)
  rwa [Heap.size_push] at this
end
theorem own45 (w : World) : ownExcIn (hd.heap_39 w.params) 45 = true := by kernel_rfl
theorem init45 (w : World) : findCls (hd.heap_39 w.params) (.type "Exception") (.type "type") (Str.ofString "__init__") = some (.val (.builtin "Exception.__init__")) := by kernel_rfl
theorem pass_exc (self : Value) : refuseLoop self "__setattr__" [.type "Exception", .type "BaseException", .type "object"] = pure () := by kernel_rfl
def excLine : List Value → Bool
  | .ref _ :: r => excLine r
  | [.type a, .type b, .type c] => a == "Exception" && b == "BaseException" && c == "object"
  | _ => false
theorem pass_line (self : Value) : ∀ {l : List Value}, excLine l = true → refuseLoop self "__setattr__" l = pure ()
  | .ref c :: r, e => by rw [refuseLoop_ref]; exact pass_line self (l := r) (by cases r <;> first | exact e | cases e)
  | [.type a, .type b, .type c], e => by
    simp only [excLine, Bool.and_eq_true, beq_iff_eq] at e
    obtain ⟨⟨rfl, rfl⟩, rfl⟩ := e
    exact pass_exc self
theorem line_object : ∀ {l : List Value}, excLine l = true → l.contains (.type "object") = true
  | .ref c :: r, e => by rw [List.contains_cons, line_object (l := r) (by cases r <;> first | exact e | cases e), Bool.or_true]
  | [.type a, .type b, .type c], e => by
    simp only [excLine, Bool.and_eq_true, beq_iff_eq] at e
    obtain ⟨⟨rfl, rfl⟩, rfl⟩ := e
    decide
def lineOver (K : Frag) (C : Addr) : Bool := (clsIn K C).any fun cd => excLine cd.mro && cd.hasDict
section
variable {prog : Program} {w : World} {A : Around} {E : Value → Shared → Prop} {R : Result → Shared → Prop} {s : Shared} {K : Frag} {h₀ : Heap} {L C x t : Addr} {m : Str → Option Value} {pre post : List (Addr × Obj)} {name : Str} {tk : Tok} {v : Value}

/-- `Exception.__init__(self, …)` on an exception of the ledger. -/
theorem init_own {rest : List Value} {Q : Value → Shared → Prop} (F : Fr h₀ L s.heap m) (X₀ : K.In h₀) (N : News h₀ L s.heap (pre ++ (x, excO C t none) :: post)) (hm : ownExcIn K C = true)
    (h1 : ∀ p ∈ pre, p.1 ≠ x) (h2 : ∀ p ∈ post, p.1 ≠ x) (hrest : rest.length ≤ sizeLine)
    (h : ∀ t' h', Fr h₀ L h' m → News h₀ L h' ((t', tupO rest) :: (pre ++ (x, excO C t' none) :: post)) → (∀ p ∈ pre ++ (x, excO C t' none) :: post, p.1 < t') → Q .none { s with heap := h' }) :
    wpAny (model prog w) A (call (.builtin "Exception.__init__") (.ref x :: rest)) Q E s := by
  obtain ⟨hh, g, d, tk, os⟩ := s
  dsimp only at F N h
  have FB := PySem.F.excBase_Exception
  obtain ⟨nm, qn, N', bs, bm, sn, sub, ab, col, dd, k0, k1, k2, k3, k5, hC, hb, ha, hn⟩ := ownExc_cls (X₀.keeps F.keep) hm
  have he := (N (x, excO C t none) (by simp)).1
  refine wpAny_call (codeAny_call_builtin FB.init.plain FB.initEntry ?_)
  have hshort := FB.noStar
  simp only [checkBuiltinCall, FB.initKind, FB.initSplit, FB.initRow]
  repeat (first
    | with_reducible refine wpAny_loadPart_at he ?_
    | with_reducible refine wpAny_loadPart_at hC ?_
    | (with_reducible refine wpAny_isSubtype_exc hC ?_; rw [hb])
    | (show wpAny _ _ (isSubtype (.ref C) _) _ _ _; refine wpAny_isSubtype_exc hC ?_; rw [hb])
    | wp_step)
  refine wpAny_onRaise ?_
  rw [show ∀ (a b : String) (n : Nat), Bind.check ⟨.positional, "*", "Exception", .self, [⟨"args", .varPos, false⟩]⟩ a b n (List.map (fun y => y.fst) ({ pos := Value.ref x :: rest } : Args).kw) = pure () from
    fun a b n => check_star_args _ _ _ _ _ _]
  refine wpAny_pure ?_
  unfold Builtin.«BaseException.__init__»
  dsimp only
  rw [if_neg (by simp)]
  unfold newTuple Builtin.BaseException.bexcPut
  have he₁ := Heap.get?_push_of_some (h := hh) (tupO rest) he
  refine wpAny_bind (wpAny_newObj_type (wpAny_bind (wpAny_bind (wpAny_field he₁ rfl (x := .ref t) rfl (wpAny_bind (wpAny_setField he₁ rfl (Nat.le_of_ble_eq_true rfl) ?_))))) (by show rest.toArray.size ≤ sizeLine; rw [List.size_toArray]; exact hrest))
  refine wpAny_letGo (wpAny_pure ?_)
  have N₁ := N.push F (tupO rest)
  obtain ⟨F₂, N₂⟩ := news_upd (f := Obj.mapFields (·.setIfInBounds 0 (Value.ref hh.objs.size))) (pre := (hh.objs.size, tupO rest) :: pre) (post := post) (d := x) (o := excO C t none) (o' := excO C hh.objs.size none) (F.push (tupO rest)) N₁
    (fun p hp => by
      rcases List.mem_cons.mp hp with rfl | hp
      · exact Nat.ne_of_gt (Heap.lt_size he)
      · exact h1 p hp) h2 rfl rfl
  refine h _ _ F₂ N₂ fun p hp => ?_
  rcases List.mem_append.mp hp with hp | hp
  · exact Heap.lt_size (N p (List.mem_append_left _ hp)).1
  · rcases List.mem_cons.mp hp with rfl | hp
    · exact Heap.lt_size he
    · exact Heap.lt_size (N p (List.mem_append_right _ (List.mem_cons_of_mem _ hp))).1

theorem osa_exc {ox : Obj} {od : Option Obj} (X : K.In s.heap) (I : InstAt s.heap x ox C od) (hp : lineOver K C = true) (ht : takerIn K C name = some none)
    (h : ∀ b, wpAny (model prog w) A.in1 (storeInOwnDict (.ref x) (.ref C) (.str name tk) name v b)
      (fun fin s' => match fin with | .done f => R (.ok f) s' | .again c' => c'.quiet = true ∧ codeAny (model prog w) A c' R s') (fun e s' => R (.error e) s') s) :
    codeAny (model prog w) A (.call (.builtin "object.__setattr__") ⟨[.ref x, .str name tk, v], []⟩) R s := by
  have SF := PySem.F.store_object
  obtain ⟨cd, hc, ho⟩ := any_some hp
  obtain ⟨ho, -⟩ := Bool.and_eq_true_iff.mp ho
  have ne : cd.mro.isEmpty = false := by cases q : cd.mro with | nil => rw [q] at ho; cases ho | cons _ _ => rfl
  have sub : Looks (model prog w) s.heap (isInstance (.ref x) (.type "object")) true := I.type.andThen (looks_mroIn X (by unfold mroIn; rw [hc, Option.bind_some, if_neg (by rw [ne]; decide), line_object ho]))
  refine codeAny_call_builtin SF.slot.plain SF.entry (@check_slot (model prog w) _ _ s "object.__setattr__" "object" "__setattr__" (.ref x) [.str name tk, v] [] _ SF.kind SF.split sub (SF.args (.ref x) (.str name tk) v) ?_)
  obtain ⟨attr, ha, hr⟩ := Option.bind_eq_some_iff.mp ht
  have hmro : Looks (model prog w) s.heap (mroOf (.ref C)) cd.mro := (looks_clsIn X hc).andThen .now
  have L3 : Looks (model prog w) s.heap (storeTaker? attr) none := by
    cases attr with
    | none => exact .now
    | some a =>
      obtain ⟨b, hb, hb2⟩ := Option.map_eq_some_iff.mp hr
      refine (looks_takesIn X hb).andThen ?_
      cases b with
      | false => exact .now
      | true => cases hb2
  rw [osa_eq, refuse_eq]
  refine wpAny_bind (wpAny_bind (I.type.here (wpAny_bind (hmro.here ?_))))
  rw [pass_line _ ho]
  refine wpAny_pure (wpAny_bind (I.type.here (wpAny_bind ((looks_findIn X ha).here (wpAny_bind (L3.here ?_))))))
  exact h _

theorem put_dict {dx : Addr} {od od' : Obj} {es : List DictEntry} {n : Nat} {Q : PySem.Fin → Shared → Prop} (D : s.heap.get? dx = some od) (hl : (lookIn name od).isSome = true)
    (e : Obj.putName name (PyData.keyHash w.params name) (.str name s.toks) v od = od') (e' : od'.data = .dict es.toArray n) (hz : es.length ≤ 1000)
    (h : Q (.done (.ret .none)) { s with heap := s.heap.update dx (Obj.putName name (PyData.keyHash w.params name) (.str name s.toks) v), toks := s.toks + 1 }) :
    wpAny (model prog w) A (storeInDict dx (.str name tk) name v) Q E s := by
  have D' : (s.heap.update dx (Obj.putName name (PyData.keyHash w.params name) (.str name s.toks) v)).get? dx = some od' := by
    rw [Heap.get?_update_self _ D (by rw [e]; obtain ⟨_, _, dd, _⟩ := od'; cases e'; rfl), e]
  unfold storeInDict
  refine wpAny_bind (wpAny_pure (wpAny_bind ?_))
  unfold nsSet
  refine wpAny_bind (wpAny_bind (wpAny_askSetting (wpAny_pure (wpAny_bind (wpAny_mkText (wpAny_bind (wpAny_loadPart D ?_)))))))
  unfold lookIn at hl
  split at hl
  · rename_i es₀ n₀ q
    rw [q]
    dsimp only
    have c : (!es₀.any (·.key.isStr name) && es₀.any (·.refKey)) = false := by
      rw [← Array.any_toList, ← Array.any_toList]
      split at hl
      · rename_i en he
        rw [List.any_eq_true.mpr ⟨en, List.mem_of_find?_eq_some he, List.find?_some he⟩]; rfl
      · split at hl
        · cases hl
        · rename_i z; rw [Bool.not_eq_true] at z; rw [z, Bool.and_false]
    rw [aRefKeyMayBeTheName_at, c]
    refine wpAny_updatePart D ?_
    refine wpAny_bind (wpAny_lookBehind D' (by rw [e']; exact pastItsLine_dict (by rw [List.size_toArray, sizeLine_eq]; omega)) ?_)
    exact wpAny_pure h
  · cases hl

/-- The first attribute of an exception: its dict is made. -/
theorem set_first {Q : Unit → Shared → Prop} {es : List DictEntry} {n : Nat} (F : Fr h₀ L s.heap m) (X₀ : K.In h₀) (N : News h₀ L s.heap (pre ++ (x, excO C t none) :: post)) (hs : findIn K (.ref C) "__setattr__" = some (some (.builtin "object.__setattr__")))
    (hp : lineOver K C = true) (ht : takerIn K C name = some none) (h1 : ∀ p ∈ pre, p.1 ≠ x) (h2 : ∀ p ∈ post, p.1 ≠ x)
    (e : Obj.putName name (PyData.keyHash w.params name) (.str name (s.toks + 1)) v emptyDict = dictOf es n) (hz : es.length ≤ 1000)
    (h : ∀ dx h', Fr h₀ L h' m → News h₀ L h' ((dx, dictOf es n) :: (pre ++ (x, excO C t (some dx)) :: post)) → (∀ p ∈ pre ++ (x, excO C t (some dx)) :: post, p.1 < dx) → Q () { s with heap := h', toks := s.toks + 1 + 1 }) :
    wpAny (model prog w) A (setAttr (.ref x) name v) Q E s := by
  have X := X₀.keeps F.keep
  have he := (N (x, excO C t none) (by simp)).1
  have I : InstAt s.heap x (excO C t none) C none := ⟨he, rfl, rfl, trivial⟩
  refine set_plain X I hs (osa_exc (s := { s with toks := s.toks + 1 }) X I hp ht fun b => ?_)
  obtain ⟨cd, hc, ho⟩ := any_some hp
  obtain ⟨-, hd⟩ := Bool.and_eq_true_iff.mp ho
  have hl := Heap.lt_size he
  have N₁ := N.push F emptyDict
  obtain ⟨F₂, N₂⟩ := news_upd (f := fun o => { o with dict := some s.heap.objs.size }) (pre := (s.heap.objs.size, emptyDict) :: pre) (post := post) (d := x) (o := excO C t none) (o' := excO C t (some s.heap.objs.size)) (F.push emptyDict) N₁
    (fun p hp => by
      rcases List.mem_cons.mp hp with rfl | hp
      · exact Nat.ne_of_gt hl
      · exact h1 p hp) h2 rfl rfl
  obtain ⟨F₃, N₃⟩ := news_upd (f := Obj.putName name (PyData.keyHash w.params name) (.str name (s.toks + 1)) v) (pre := []) (post := pre ++ (x, excO C t (some s.heap.objs.size)) :: post) (d := s.heap.objs.size) (o := emptyDict) (o' := dictOf es n) F₂ N₂
    (fun p hp => nomatch hp)
    (fun p hp => by
      rcases List.mem_append.mp hp with hp | hp
      · exact Nat.ne_of_lt (Heap.lt_size (N p (List.mem_append_left _ hp)).1)
      · rcases List.mem_cons.mp hp with rfl | hp
        · exact Nat.ne_of_lt hl
        · exact Nat.ne_of_lt (Heap.lt_size (N p (List.mem_append_right _ (List.mem_cons_of_mem _ hp))).1)) e rfl
  refine wpAny_bind (wpAny_pure (wpAny_bind (wpAny_bind (wpAny_loadPart he (wpAny_bind (looks_clsIn X hc _ _ _ _ (fun _ _ q => q) ?_))))))
  rw [hd]
  refine wpAny_bind (wpAny_alloc (wpAny_bind (wpAny_update (Heap.get?_push_of_some _ he) ?_)))
  refine wpAny_pure (a := some s.heap.objs.size) ?_
  refine put_dict (s := { s with heap := _, toks := s.toks + 1 }) (N₂ (s.heap.objs.size, emptyDict) (List.mem_cons_self ..)).1 rfl e rfl hz ?_
  refine h _ _ F₃ N₃ fun p hp => ?_
  rcases List.mem_append.mp hp with hp | hp
  · exact Heap.lt_size (N p (List.mem_append_left _ hp)).1
  · rcases List.mem_cons.mp hp with rfl | hp
    · exact hl
    · exact Heap.lt_size (N p (List.mem_append_right _ (List.mem_cons_of_mem _ hp))).1

/-- A further attribute of an exception. -/
theorem set_next {Q : Unit → Shared → Prop} {dx : Addr} {es es' : List DictEntry} {n n' : Nat} (F : Fr h₀ L s.heap m) (X₀ : K.In h₀) (N : News h₀ L s.heap (pre ++ (dx, dictOf es n) :: post)) (hm : (x, excO C t (some dx)) ∈ pre ++ (dx, dictOf es n) :: post) (hs : findIn K (.ref C) "__setattr__" = some (some (.builtin "object.__setattr__")))
    (hp : lineOver K C = true) (ht : takerIn K C name = some none) (h1 : ∀ p ∈ pre, p.1 ≠ dx) (h2 : ∀ p ∈ post, p.1 ≠ dx) (hl : (lookIn name (dictOf es n)).isSome = true)
    (e : Obj.putName name (PyData.keyHash w.params name) (.str name (s.toks + 1)) v (dictOf es n) = dictOf es' n') (hz : es'.length ≤ 1000)
    (h : ∀ h', Fr h₀ L h' m → News h₀ L h' (pre ++ (dx, dictOf es' n') :: post) → Q () { s with heap := h', toks := s.toks + 1 + 1 }) :
    wpAny (model prog w) A (setAttr (.ref x) name v) Q E s := by
  have X := X₀.keeps F.keep
  have he := (N (x, excO C t (some dx)) hm).1
  have D := (N (dx, dictOf es n) (by simp)).1
  have I : InstAt s.heap x (excO C t (some dx)) C (some (dictOf es n)) := ⟨he, rfl, rfl, D⟩
  refine set_plain X I hs (osa_exc (s := { s with toks := s.toks + 1 }) X I hp ht fun b => ?_)
  obtain ⟨cd, hc, ho⟩ := any_some hp
  obtain ⟨-, hd⟩ := Bool.and_eq_true_iff.mp ho
  obtain ⟨F₃, N₃⟩ := news_upd (f := Obj.putName name (PyData.keyHash w.params name) (.str name (s.toks + 1)) v) F N h1 h2 e rfl
  refine wpAny_bind (wpAny_pure (wpAny_bind (wpAny_bind (wpAny_loadPart he (wpAny_bind (looks_clsIn X hc _ _ _ _ (fun _ _ q => q) ?_))))))
  rw [hd]
  refine wpAny_pure (a := some dx) ?_
  refine put_dict (s := { s with toks := s.toks + 1 }) D hl e rfl hz ?_
  exact h _ F₃ N₃
end
end Mine
end

section
set_option maxRecDepth 100000
set_option maxHeartbeats 8000000
open PySem PySem.W PySem.Spec PySem.Calls PyProof.Rows
namespace Mine
def baseLine (K : Frag) (C : Addr) : Bool := (clsIn K C).any fun cd => cd.mro.contains (.type "BaseException")
/-- What a raised value of a class of the program is to be. -/
def OwnRaised (E : Value → Shared → Prop) (v : Value) (s₁ : Shared) : Prop :=
  ∃ (e t C : Addr) (dx : Option Addr) (K : Frag), v = .ref e ∧ K.In s₁.heap ∧ ownExcIn K C = true ∧ baseLine K C = true ∧ s₁.heap.get? e = some (excO C t dx) ∧ E (.ref e) s₁
section
variable {M : Model} {A : Around} {E : Value → Shared → Prop} {s : Shared} {env : Env}
theorem Raise_own {e : Expr} {pos : Pos} {Q : Flow → Shared → Prop} (hh : A.handled = none)
    (h : wpAny M A (eval e env) (OwnRaised E) E s) : wpAny M A (exec (.Raise (some e) none pos) env) Q E s := by
  show wpAny M A (do standAt pos; raiseStmt env (some (do let v ← eval e env; standAt pos; pure v)) none) Q E s
  refine wpAny_bind (wpAny_standAt ?_)
  unfold raiseStmt
  dsimp only
  refine wpAny_bind (wpAny_bind (wpAny_mono h (fun v s₁ h₁ => wpAny_bind (wpAny_standAt (wpAny_pure ?_))) fun _ _ x => x))
  obtain ⟨a, t, C, dx, K, rfl, X, hm, hb, he, hE⟩ := h₁
  obtain ⟨hp, g, d, tk, os⟩ := s₁
  dsimp only at X he
  obtain ⟨cd, hc, hbm⟩ := any_some hb
  have sub : Looks M hp (isSubtype (.ref C) (.type "BaseException")) true := looks_mroIn X (by
    unfold mroIn
    have ne : cd.mro.isEmpty = false := by cases q : cd.mro with | nil => rw [q] at hbm; cases hbm | cons _ _ => rfl
    rw [hc, Option.bind_some, if_neg (by rw [ne]; decide), hbm])
  obtain ⟨nm, qn, N', bs, bm, sn, sb, ab, col, dd, k0, k1, k2, k3, k5, hC, -, -, -⟩ := ownExc_cls X hm
  repeat (first
    | with_reducible refine wpAny_loadPart_at he ?_
    | with_reducible refine wpAny_loadPart_at hC ?_
    | with_reducible refine sub.at ?_
    | (show wpAny _ _ (isSubtype (.ref C) _) _ _ _; refine sub.at ?_)
    | wp_step)
  exact wpAny_raiseNew_none hh hE
end
section
variable {M : Model} {A : Around} {E : Value → Shared → Prop} {s' : Shared} {base g : Heap} {outer : List Env} {L a e t C : Addr} {m : Str → Option Value} {name : Str} {scope : Scope} {cd : Value} {Q : Unit → Shared → Prop} {news : List (Addr × Obj)} {dx : Option Addr} {vs : List Value}
theorem leave_own (K : Below A base outer g) (F : Fr g L s'.heap m) (N : News g L s'.heap news) (he : s'.heap.get? e = some (excO C t dx)) (ge : g.get? e = none) (ht : s'.heap.get? t = some (tupO vs)) (gt : g.get? t = none)
    (off : ∀ p ∈ news, p.1 ≠ e ∧ p.1 ≠ t)
    (hQ : ∀ h', RaisedS base g outer e (.ref C) t vs news h' → RaisedK base outer e (.ref C) t vs news h' → g.UpToSlots h' → Q () { s' with heap := h' }) (hk : scope.kind = .function := by rfl) :
    wpAny M (A.deeper (envOf name scope L a cd)) (leaving (envOf name scope L a cd) (.ref e)) Q E s' := by
  have K' := K.push (name := name) (a := a) (cd := cd) F hk
  generalize has : e :: t :: (envOf name scope L a cd :: outer).filterMap (·.frame) = as
  have hin : ∀ env ∈ (envOf name scope L a cd :: outer), ∀ b, env.frame = some b → b ∈ as := fun env he b hb => has ▸ List.mem_cons_of_mem _ (List.mem_cons_of_mem _ (List.mem_filterMap.mpr ⟨env, he, hb⟩))
  have bs : ∀ b o, base.get? b = some o → g.get? b = some o := K.stays
  have st : base.StaysIn (hideAll s'.heap as) := fun b o q => hideAll_get _ (K'.stays b o q) fun hm => by
    rw [← has] at hm
    rcases List.mem_cons.mp hm with rfl | hm
    · have := bs _ _ q; rw [ge] at this; cases this
    rcases List.mem_cons.mp hm with rfl | hm
    · have := bs _ _ q; rw [gt] at this; cases this
    rw [(K'.frames.mem hm).1] at q; cases q
  have sg : ∀ b o, g.get? b = some o → b ∉ outer.filterMap (·.frame) → (hideAll s'.heap as).get? b = some o := fun b o q nm => hideAll_get _ (F.keep b o q) fun hm => by
    rw [← has] at hm
    rcases List.mem_cons.mp hm with rfl | hm
    · rw [ge] at q; cases q
    rcases List.mem_cons.mp hm with rfl | hm
    · rw [gt] at q; cases q
    rcases kts_mem hm with z | z
    · rw [z, kts_self F] at q
      cases q
    · exact nm z
  have hl : ∀ q ∈ news, (hideAll s'.heap as).get? q.1 = some q.2 ∧ g.get? q.1 = none ∧ base.get? q.1 = none := fun q hq => by
    refine ⟨hideAll_get _ (N q hq).1 fun hm => ?_, (N q hq).2.2, fresh_of_stays K.stays (N q hq).2.2⟩
    rw [← has] at hm
    rcases List.mem_cons.mp hm with z | hm
    · exact (off q hq).1 z
    rcases List.mem_cons.mp hm with z | hm
    · exact (off q hq).2 z
    obtain ⟨env, he', hf⟩ := List.mem_filterMap.mp hm
    rcases List.mem_cons.mp he' with rfl | he'
    · exact (N q hq).2.1 (Option.some.inj hf).symm
    · obtain ⟨o, ho, _⟩ := (K.frames.mem (List.mem_filterMap.mpr ⟨env, he', hf⟩)).2
      rw [(N q hq).2.2] at ho; cases ho
  have hen : (hideAll s'.heap as).get? e = none := hideAll_none _ (by rw [← has]; exact List.mem_cons_self ..)
  have htn : (hideAll s'.heap as).get? t = none := hideAll_none _ (by rw [← has]; exact List.mem_cons_of_mem _ (List.mem_cons_self ..))
  refine wpAny_leaving_firstW (base := hideAll s'.heap as) (outer := outer) (a0 := .ref t) K'.stack (funFrames_hide K'.frames hin) rfl he (fun b o q => of_hideAll _ q) hen rfl rfl rfl fun h' hL => ?_
  obtain ⟨k1, ⟨_, _, k2⟩, k3, k4⟩ := hL
  have R : RaisedS base g outer e (.ref C) t vs news h' := ⟨⟨_, st, sg, hl, ⟨k1, hen, k2, k3⟩, htn⟩, Heap.TupAt.of_slots ⟨_, _, ht, rfl, rfl⟩ k4⟩
  exact hQ h' R R.toK ((Heap.UpToSlots.of_keeps F.keep).trans k4)
end
end Mine
end

section
set_option maxRecDepth 100000
set_option maxHeartbeats 8000000
open PySem PySem.W PySem.Spec PySem.Calls PyProof.Rows
namespace Mine
local macro_rules | `(tactic| walk_at "mine enter") => `(tactic| (refine' code_def ?k1 ?k2 ?k3 ?k4 ?k5 ?kA ?kF ?kK ?k6 ?k7 ?k8 ?k9 ?kB ?_ ?c2 ?c3 ?c4 ?c5; (case kA => exact rfl); (case kF => exact rfl); (case kK => first | exact rfl | assumption); (case k1 => k_asm); (case k2 => k_asm); (case k3 => k_asm); (case k4 => k_asm); (case k5 => k_asm); (case k6 => k_is); (case k7 => k_is); (case k8 => ktr_room); (case k9 => first | exact BindsTo.of_eq rfl | exact binds_K (by k_in) rfl (by k_is) rfl rfl rfl); (case c5 => decide); (case kB => exact locs rfl); (case c2 => exact rfl); (case c3 => exact rfl); (case c4 => exact rfl); k_whole; intro g' L' h' FG' F' N' B' X' T'; (try dsimp only); (try k_lift B'); (try k_fold)))
local macro_rules | `(tactic| walk_at "mine enterS") => `(tactic| (refine' code_defS0 ?k1 ?k2 ?k3 ?k4 ?k5 ?kA ?k6 ?k7 ?k8 ?k9 ?kB ?_ ?cK ?c2 ?c3 ?c4 ?c5; (case kA => exact rfl); (case k2 => k_asm); (case k1 => k_asm); (case k3 => k_asm); (case k4 => k_asm); (case k5 => k_asm); (case k6 => k_is); (case k7 => k_is); (case k8 => ktr_room); (case k9 => first | exact binds_K (by k_in) rfl (by k_is) rfl rfl rfl | exact BindsTo.of_eq rfl); (case kB => exact locs rfl); (case cK => first | assumption | exact rfl); (case c2 => exact rfl); (case c3 => exact rfl); (case c4 => exact rfl); (case c5 => decide); k_whole; intro g' L' h' FG' F' N' B' X' T' D'; (try dsimp only); (try k_lift B'); (try k_fold)))
local macro_rules | `(tactic| walk_at "call ref") => `(tactic| (k_here; k_dflt (refine wpAny_call ?_; walk_at "mine enter")))
local macro_rules | `(tactic| walk_at "exec Raise some none") => `(tactic| (k_here; k_dflt (refine Raise_own (by rfl) ?_)))
local macro_rules | `(tactic| walk_at "getMethod type:Exception") => `(tactic| (k_here; k_dflt (refine' method_type ?F ?X ?m (by decide +kernel) (init45 _) ?h ?_; (case F => k_asm); (case X => k_asm); (case m => first | rfl | kernel_rfl); (case h => decide +kernel))))
theorem in45 (w : World) : findIn (hd.heap_39 w.params) (.ref 45) "__init__" = some (some (.ref 29)) := by kernel_rfl
theorem fn29 (w : World) : isFn (hd.heap_39 w.params) (.ref 29) = true := by kernel_rfl
theorem set45 (w : World) : findIn (hd.heap_39 w.params) (.ref 45) "__setattr__" = some (some (.builtin "object.__setattr__")) := by kernel_rfl
theorem line45 (w : World) : lineOver (hd.heap_39 w.params) 45 = true := by kernel_rfl
theorem base45 (w : World) : baseLine (hd.heap_39 w.params) 45 = true := by kernel_rfl
theorem tak45m (w : World) : takerIn (hd.heap_39 w.params) 45 (Str.ofString "message") = some none := by kernel_rfl
theorem tak45s (w : World) : takerIn (hd.heap_39 w.params) 45 (Str.ofString "spot") = some none := by kernel_rfl
def Says0 (d : Nat) (f : Addr) (news : List (Addr × Obj)) (vs : List Value) (R : Value → List (Addr × Obj) → Prop) : Prop :=
  ∀ (w : World) (mean : ExcName → Option Value) (mg mb : Str → Option Value) (dp un : Nat) (gd : Option (List Code)) (cn : Str) (cs : Scope) (a : Addr) (ccd : Value) (A₀ : Around) (base h₀ : Heap) (L : Addr) (m : Str → Option Value) (s : Shared) (Q E : Value → Shared → Prop),
    Below A₀ base [] h₀ → Fr h₀ L s.heap m → (hd.heap_39 w.params).In h₀ → News h₀ L s.heap news → Top hd.view_39 lo mean mg mb h₀ → cs.kind = .function → dp + d < recursionLimit → un + 8 * d < cLine →
    (∀ (r : Value) (news' : List (Addr × Obj)) (h' : Heap) (tk' : Nat), R r news' → Fr h₀ L h' m → News h₀ L h' news' → Q r { s with heap := h', toks := tk' }) →
    wpAny (model PySem.Challenge.rw_xm0575_01.row.prog w) (ktrTop dp un gd cn cs L a ccd [] []) (call (.ref f) vs) Q E s
theorem refused_shl (a b : Int) (to ta tb : Tok) (news : List (Addr × Obj)) :
    Says0 6 129 news [.str (Str.ofString "<<") to, .int a ta, .int b tb] fun r news' => r = .bool true ∧ news' = news := by
  unfold Says0
  k_fill
  intro w mean mg mb dp un gd cn cs a ccd A₀ base h₀ L m s Q E B₀ F X N T hk hd hu hret
  have B : Below A₀ h₀ [] h₀ := ⟨B₀.stack, fun _ _ e => e, trivial⟩
  clear B₀
  refine wpAny_call ?_
  k_dflt walk_at "mine enterS"
  repeat' (first | (fail_if_success (with_reducible show wpAny _ _ (call (Value.ref 45) _) _ _ _)); first | (k_unfold; (try dsimp only)) | walk1 | (dsimp only; walk1))
  rename News _ _ _ _ => nE
  rename Fr _ _ _ _ => fE
  k_dflt (refine' call_exc fE ?x nE (own45 _) (in45 _) (fn29 _) (Nat.le_of_ble_eq_true rfl) ?_)
  case x => k_asm
  intro xe te he fE2 nE2 le1 le2
  k_dflt (walk_at "mine enter")
  repeat' (first | (fail_if_success (with_reducible show wpAny _ _ (call (Value.builtin "Exception.__init__") _) _ _ _)); first | (k_unfold; (try dsimp only)) | walk1 | (dsimp only; walk1))
  rename News _ _ _ _ => nE3
  rename Fr _ _ _ _ => fE3
  k_dflt (refine' init_own (pre := []) fE3 ?x nE3 (own45 _) (fun p hp => nomatch hp) ?o (Nat.le_of_ble_eq_true rfl) ?_)
  case x => k_asm
  case o =>
    intro p hp
    rcases List.mem_cons.mp hp with rfl | hp
    · exact Nat.ne_of_lt le2
    · exact Nat.ne_of_lt (Nat.lt_trans (le1 p hp) le2)
  intro tf hf fE4 nE4 le3
  simp only [List.nil_append] at nE4 le3
  clear nE3 fE3
  repeat' (first | (fail_if_success (with_reducible show wpAny _ _ (setAttr _ _ _) _ _ _)); first | (k_unfold; (try dsimp only)) | walk1 | (dsimp only; walk1))
  rename News _ _ _ _ => nE5
  rename Fr _ _ _ _ => fE5
  k_dflt (refine' set_first (pre := [(tf, _)]) fE5 ?x nE5 (set45 _) (line45 _) (tak45m _) ?a ?b (putName_dict ..) ?z ?_)
  case x => k_asm
  case z => exact Nat.le_of_ble_eq_true rfl
  case a =>
    intro p hp
    cases List.mem_singleton.mp hp
    exact Nat.ne_of_gt (le3 _ (List.mem_cons_self ..))
  case b =>
    intro p hp
    rcases List.mem_cons.mp hp with rfl | hp
    · exact Nat.ne_of_lt le2
    · exact Nat.ne_of_lt (Nat.lt_trans (le1 p hp) le2)
  intro dd hf2 fE6 nE6 le4
  simp only [List.nil_append, List.cons_append] at nE6 le4
  clear nE5 fE5
  repeat' (first | (fail_if_success (with_reducible show wpAny _ _ (setAttr _ _ _) _ _ _)); first | (k_unfold; (try dsimp only)) | walk1 | (dsimp only; walk1))
  rename News _ _ _ _ => nE7
  rename Fr _ _ _ _ => fE7
  k_dflt (refine' set_next (pre := []) fE7 ?x nE7 ?m (set45 _) (line45 _) (tak45s _) (fun p hp => nomatch hp) ?b ?l (putName_dict ..) ?z ?_)
  case x => k_asm
  case m => exact List.mem_cons_of_mem _ (List.mem_cons_of_mem _ (List.mem_cons_self ..))
  case b =>
    intro p hp
    exact Nat.ne_of_lt (le4 p hp)
  case l => exact rfl
  case z => exact Nat.le_of_ble_eq_true rfl
  intro hf3 fE8 nE8
  simp only [List.nil_append] at nE8
  clear nE7 fE7
  repeat' (first | (fail_if_success (with_reducible show OwnRaised _ _ _)); first | (k_unfold; (try dsimp only)) | walk1 | (dsimp only; walk1))
  rename News _ _ _ _ => nE9
  rename Fr _ _ _ _ => fE9
  refine' ⟨xe, tf, 45, some dd, Mine.hd.heap_39 w.params, rfl, ?x, own45 _, base45 _, (nE9 _ (List.mem_cons_of_mem _ (List.mem_cons_of_mem _ (List.mem_cons_self ..)))).1, ?_⟩
  case x => exact Frag.In.keeps (by k_asm) fE9.keep
  k_unfold
  (try dsimp only)
  have mE : ∀ p ∈ news, p.1 < te := fun p hp => le1 p (List.mem_cons_of_mem _ hp)
  k_dflt (refine' leave_own ?k1 fE9 (fun p hp => nE9 p (List.mem_cons_of_mem _ (List.mem_cons_of_mem _ (List.mem_cons_of_mem _ (List.mem_cons_of_mem _ (List.mem_cons_of_mem _ hp)))))) (nE9 _ (List.mem_cons_of_mem _ (List.mem_cons_of_mem _ (List.mem_cons_self ..)))).1 (nE9 _ (List.mem_cons_of_mem _ (List.mem_cons_of_mem _ (List.mem_cons_self ..)))).2.2 (nE9 _ (List.mem_cons_of_mem _ (List.mem_cons_self ..))).1 (nE9 _ (List.mem_cons_of_mem _ (List.mem_cons_self ..))).2.2 ?k2 ?_)
  case k1 => k_asm
  case k2 =>
    intro p hp
    have q1 := mE p hp
    have q2 := le3 (xe, excO 45 tf none) (List.mem_cons_self ..)
    exact ⟨Nat.ne_of_lt (Nat.lt_trans q1 le2), Nat.ne_of_lt (Nat.lt_trans (Nat.lt_trans q1 le2) q2)⟩
  intro h' S' R' U'
  (try dsimp only at S' R' U' ⊢)
  k_steps
  refine' hret _ _ _ _ ?ea ?eb ?ec
  case eb => k_asm
  case ec => k_asm
  case ea => exact ⟨rfl, rfl⟩
theorem refused_shr (a b : Int) (to ta tb : Tok) (news : List (Addr × Obj)) :
    Says0 6 129 news [.str (Str.ofString ">>") to, .int a ta, .int b tb] fun r news' => r = .bool true ∧ news' = news := by
  unfold Says0
  k_fill
  intro w mean mg mb dp un gd cn cs a ccd A₀ base h₀ L m s Q E B₀ F X N T hk hd hu hret
  have B : Below A₀ h₀ [] h₀ := ⟨B₀.stack, fun _ _ e => e, trivial⟩
  clear B₀
  refine wpAny_call ?_
  k_dflt walk_at "mine enterS"
  repeat' (first | (fail_if_success (with_reducible show wpAny _ _ (call (Value.ref 45) _) _ _ _)); first | (k_unfold; (try dsimp only)) | walk1 | (dsimp only; walk1))
  rename News _ _ _ _ => nE
  rename Fr _ _ _ _ => fE
  k_dflt (refine' call_exc fE ?x nE (own45 _) (in45 _) (fn29 _) (Nat.le_of_ble_eq_true rfl) ?_)
  case x => k_asm
  intro xe te he fE2 nE2 le1 le2
  k_dflt (walk_at "mine enter")
  repeat' (first | (fail_if_success (with_reducible show wpAny _ _ (call (Value.builtin "Exception.__init__") _) _ _ _)); first | (k_unfold; (try dsimp only)) | walk1 | (dsimp only; walk1))
  rename News _ _ _ _ => nE3
  rename Fr _ _ _ _ => fE3
  k_dflt (refine' init_own (pre := []) fE3 ?x nE3 (own45 _) (fun p hp => nomatch hp) ?o (Nat.le_of_ble_eq_true rfl) ?_)
  case x => k_asm
  case o =>
    intro p hp
    rcases List.mem_cons.mp hp with rfl | hp
    · exact Nat.ne_of_lt le2
    · exact Nat.ne_of_lt (Nat.lt_trans (le1 p hp) le2)
  intro tf hf fE4 nE4 le3
  simp only [List.nil_append] at nE4 le3
  clear nE3 fE3
  repeat' (first | (fail_if_success (with_reducible show wpAny _ _ (setAttr _ _ _) _ _ _)); first | (k_unfold; (try dsimp only)) | walk1 | (dsimp only; walk1))
  rename News _ _ _ _ => nE5
  rename Fr _ _ _ _ => fE5
  k_dflt (refine' set_first (pre := [(tf, _)]) fE5 ?x nE5 (set45 _) (line45 _) (tak45m _) ?a ?b (putName_dict ..) ?z ?_)
  case x => k_asm
  case z => exact Nat.le_of_ble_eq_true rfl
  case a =>
    intro p hp
    cases List.mem_singleton.mp hp
    exact Nat.ne_of_gt (le3 _ (List.mem_cons_self ..))
  case b =>
    intro p hp
    rcases List.mem_cons.mp hp with rfl | hp
    · exact Nat.ne_of_lt le2
    · exact Nat.ne_of_lt (Nat.lt_trans (le1 p hp) le2)
  intro dd hf2 fE6 nE6 le4
  simp only [List.nil_append, List.cons_append] at nE6 le4
  clear nE5 fE5
  repeat' (first | (fail_if_success (with_reducible show wpAny _ _ (setAttr _ _ _) _ _ _)); first | (k_unfold; (try dsimp only)) | walk1 | (dsimp only; walk1))
  rename News _ _ _ _ => nE7
  rename Fr _ _ _ _ => fE7
  k_dflt (refine' set_next (pre := []) fE7 ?x nE7 ?m (set45 _) (line45 _) (tak45s _) (fun p hp => nomatch hp) ?b ?l (putName_dict ..) ?z ?_)
  case x => k_asm
  case m => exact List.mem_cons_of_mem _ (List.mem_cons_of_mem _ (List.mem_cons_self ..))
  case b =>
    intro p hp
    exact Nat.ne_of_lt (le4 p hp)
  case l => exact rfl
  case z => exact Nat.le_of_ble_eq_true rfl
  intro hf3 fE8 nE8
  simp only [List.nil_append] at nE8
  clear nE7 fE7
  repeat' (first | (fail_if_success (with_reducible show OwnRaised _ _ _)); first | (k_unfold; (try dsimp only)) | walk1 | (dsimp only; walk1))
  rename News _ _ _ _ => nE9
  rename Fr _ _ _ _ => fE9
  refine' ⟨xe, tf, 45, some dd, Mine.hd.heap_39 w.params, rfl, ?x, own45 _, base45 _, (nE9 _ (List.mem_cons_of_mem _ (List.mem_cons_of_mem _ (List.mem_cons_self ..)))).1, ?_⟩
  case x => exact Frag.In.keeps (by k_asm) fE9.keep
  k_unfold
  (try dsimp only)
  have mE : ∀ p ∈ news, p.1 < te := fun p hp => le1 p (List.mem_cons_of_mem _ hp)
  k_dflt (refine' leave_own ?k1 fE9 (fun p hp => nE9 p (List.mem_cons_of_mem _ (List.mem_cons_of_mem _ (List.mem_cons_of_mem _ (List.mem_cons_of_mem _ (List.mem_cons_of_mem _ hp)))))) (nE9 _ (List.mem_cons_of_mem _ (List.mem_cons_of_mem _ (List.mem_cons_self ..)))).1 (nE9 _ (List.mem_cons_of_mem _ (List.mem_cons_of_mem _ (List.mem_cons_self ..)))).2.2 (nE9 _ (List.mem_cons_of_mem _ (List.mem_cons_self ..))).1 (nE9 _ (List.mem_cons_of_mem _ (List.mem_cons_self ..))).2.2 ?k2 ?_)
  case k1 => k_asm
  case k2 =>
    intro p hp
    have q1 := mE p hp
    have q2 := le3 (xe, excO 45 tf none) (List.mem_cons_self ..)
    exact ⟨Nat.ne_of_lt (Nat.lt_trans q1 le2), Nat.ne_of_lt (Nat.lt_trans (Nat.lt_trans q1 le2) q2)⟩
  intro h' S' R' U'
  (try dsimp only at S' R' U' ⊢)
  k_steps
  refine' hret _ _ _ _ ?ea ?eb ?ec
  case eb => k_asm
  case ec => k_asm
  case ea => exact ⟨rfl, rfl⟩
theorem refused_eq (a b : Int) (to ta tb : Tok) (news : List (Addr × Obj)) :
    Says0 6 129 news [.str (Str.ofString "==") to, .int a ta, .int b tb] fun r news' => r = .bool true ∧ news' = news := by
  unfold Says0
  k_fill
  intro w mean mg mb dp un gd cn cs a ccd A₀ base h₀ L m s Q E B₀ F X N T hk hd hu hret
  have B : Below A₀ h₀ [] h₀ := ⟨B₀.stack, fun _ _ e => e, trivial⟩
  clear B₀
  refine wpAny_call ?_
  k_dflt walk_at "mine enterS"
  repeat' (first | (fail_if_success (with_reducible show wpAny _ _ (call (Value.ref 45) _) _ _ _)); first | (k_unfold; (try dsimp only)) | walk1 | (dsimp only; walk1))
  rename News _ _ _ _ => nE
  rename Fr _ _ _ _ => fE
  k_dflt (refine' call_exc fE ?x nE (own45 _) (in45 _) (fn29 _) (Nat.le_of_ble_eq_true rfl) ?_)
  case x => k_asm
  intro xe te he fE2 nE2 le1 le2
  k_dflt (walk_at "mine enter")
  repeat' (first | (fail_if_success (with_reducible show wpAny _ _ (call (Value.builtin "Exception.__init__") _) _ _ _)); first | (k_unfold; (try dsimp only)) | walk1 | (dsimp only; walk1))
  rename News _ _ _ _ => nE3
  rename Fr _ _ _ _ => fE3
  k_dflt (refine' init_own (pre := []) fE3 ?x nE3 (own45 _) (fun p hp => nomatch hp) ?o (Nat.le_of_ble_eq_true rfl) ?_)
  case x => k_asm
  case o =>
    intro p hp
    rcases List.mem_cons.mp hp with rfl | hp
    · exact Nat.ne_of_lt le2
    · exact Nat.ne_of_lt (Nat.lt_trans (le1 p hp) le2)
  intro tf hf fE4 nE4 le3
  simp only [List.nil_append] at nE4 le3
  clear nE3 fE3
  repeat' (first | (fail_if_success (with_reducible show wpAny _ _ (setAttr _ _ _) _ _ _)); first | (k_unfold; (try dsimp only)) | walk1 | (dsimp only; walk1))
  rename News _ _ _ _ => nE5
  rename Fr _ _ _ _ => fE5
  k_dflt (refine' set_first (pre := [(tf, _)]) fE5 ?x nE5 (set45 _) (line45 _) (tak45m _) ?a ?b (putName_dict ..) ?z ?_)
  case x => k_asm
  case z => exact Nat.le_of_ble_eq_true rfl
  case a =>
    intro p hp
    cases List.mem_singleton.mp hp
    exact Nat.ne_of_gt (le3 _ (List.mem_cons_self ..))
  case b =>
    intro p hp
    rcases List.mem_cons.mp hp with rfl | hp
    · exact Nat.ne_of_lt le2
    · exact Nat.ne_of_lt (Nat.lt_trans (le1 p hp) le2)
  intro dd hf2 fE6 nE6 le4
  simp only [List.nil_append, List.cons_append] at nE6 le4
  clear nE5 fE5
  repeat' (first | (fail_if_success (with_reducible show wpAny _ _ (setAttr _ _ _) _ _ _)); first | (k_unfold; (try dsimp only)) | walk1 | (dsimp only; walk1))
  rename News _ _ _ _ => nE7
  rename Fr _ _ _ _ => fE7
  k_dflt (refine' set_next (pre := []) fE7 ?x nE7 ?m (set45 _) (line45 _) (tak45s _) (fun p hp => nomatch hp) ?b ?l (putName_dict ..) ?z ?_)
  case x => k_asm
  case m => exact List.mem_cons_of_mem _ (List.mem_cons_of_mem _ (List.mem_cons_self ..))
  case b =>
    intro p hp
    exact Nat.ne_of_lt (le4 p hp)
  case l => exact rfl
  case z => exact Nat.le_of_ble_eq_true rfl
  intro hf3 fE8 nE8
  simp only [List.nil_append] at nE8
  clear nE7 fE7
  repeat' (first | (fail_if_success (with_reducible show OwnRaised _ _ _)); first | (k_unfold; (try dsimp only)) | walk1 | (dsimp only; walk1))
  rename News _ _ _ _ => nE9
  rename Fr _ _ _ _ => fE9
  refine' ⟨xe, tf, 45, some dd, Mine.hd.heap_39 w.params, rfl, ?x, own45 _, base45 _, (nE9 _ (List.mem_cons_of_mem _ (List.mem_cons_of_mem _ (List.mem_cons_self ..)))).1, ?_⟩
  case x => exact Frag.In.keeps (by k_asm) fE9.keep
  k_unfold
  (try dsimp only)
  have mE : ∀ p ∈ news, p.1 < te := fun p hp => le1 p (List.mem_cons_of_mem _ hp)
  k_dflt (refine' leave_own ?k1 fE9 (fun p hp => nE9 p (List.mem_cons_of_mem _ (List.mem_cons_of_mem _ (List.mem_cons_of_mem _ (List.mem_cons_of_mem _ (List.mem_cons_of_mem _ hp)))))) (nE9 _ (List.mem_cons_of_mem _ (List.mem_cons_of_mem _ (List.mem_cons_self ..)))).1 (nE9 _ (List.mem_cons_of_mem _ (List.mem_cons_of_mem _ (List.mem_cons_self ..)))).2.2 (nE9 _ (List.mem_cons_of_mem _ (List.mem_cons_self ..))).1 (nE9 _ (List.mem_cons_of_mem _ (List.mem_cons_self ..))).2.2 ?k2 ?_)
  case k1 => k_asm
  case k2 =>
    intro p hp
    have q1 := mE p hp
    have q2 := le3 (xe, excO 45 tf none) (List.mem_cons_self ..)
    exact ⟨Nat.ne_of_lt (Nat.lt_trans q1 le2), Nat.ne_of_lt (Nat.lt_trans (Nat.lt_trans q1 le2) q2)⟩
  intro h' S' R' U'
  (try dsimp only at S' R' U' ⊢)
  k_steps
  refine' hret _ _ _ _ ?ea ?eb ?ec
  case eb => k_asm
  case ec => k_asm
  case ea => exact ⟨rfl, rfl⟩
theorem refused_none (a b : Int) (to ta tb : Tok) (news : List (Addr × Obj)) :
    Says0 6 129 news [.str (Str.ofString "") to, .int a ta, .int b tb] fun r news' => r = .bool true ∧ news' = news := by
  unfold Says0
  k_fill
  intro w mean mg mb dp un gd cn cs a ccd A₀ base h₀ L m s Q E B₀ F X N T hk hd hu hret
  have B : Below A₀ h₀ [] h₀ := ⟨B₀.stack, fun _ _ e => e, trivial⟩
  clear B₀
  refine wpAny_call ?_
  k_dflt walk_at "mine enterS"
  repeat' (first | (fail_if_success (with_reducible show wpAny _ _ (call (Value.ref 45) _) _ _ _)); first | (k_unfold; (try dsimp only)) | walk1 | (dsimp only; walk1))
  rename News _ _ _ _ => nE
  rename Fr _ _ _ _ => fE
  k_dflt (refine' call_exc fE ?x nE (own45 _) (in45 _) (fn29 _) (Nat.le_of_ble_eq_true rfl) ?_)
  case x => k_asm
  intro xe te he fE2 nE2 le1 le2
  k_dflt (walk_at "mine enter")
  repeat' (first | (fail_if_success (with_reducible show wpAny _ _ (call (Value.builtin "Exception.__init__") _) _ _ _)); first | (k_unfold; (try dsimp only)) | walk1 | (dsimp only; walk1))
  rename News _ _ _ _ => nE3
  rename Fr _ _ _ _ => fE3
  k_dflt (refine' init_own (pre := []) fE3 ?x nE3 (own45 _) (fun p hp => nomatch hp) ?o (Nat.le_of_ble_eq_true rfl) ?_)
  case x => k_asm
  case o =>
    intro p hp
    rcases List.mem_cons.mp hp with rfl | hp
    · exact Nat.ne_of_lt le2
    · exact Nat.ne_of_lt (Nat.lt_trans (le1 p hp) le2)
  intro tf hf fE4 nE4 le3
  simp only [List.nil_append] at nE4 le3
  clear nE3 fE3
  repeat' (first | (fail_if_success (with_reducible show wpAny _ _ (setAttr _ _ _) _ _ _)); first | (k_unfold; (try dsimp only)) | walk1 | (dsimp only; walk1))
  rename News _ _ _ _ => nE5
  rename Fr _ _ _ _ => fE5
  k_dflt (refine' set_first (pre := [(tf, _)]) fE5 ?x nE5 (set45 _) (line45 _) (tak45m _) ?a ?b (putName_dict ..) ?z ?_)
  case x => k_asm
  case z => exact Nat.le_of_ble_eq_true rfl
  case a =>
    intro p hp
    cases List.mem_singleton.mp hp
    exact Nat.ne_of_gt (le3 _ (List.mem_cons_self ..))
  case b =>
    intro p hp
    rcases List.mem_cons.mp hp with rfl | hp
    · exact Nat.ne_of_lt le2
    · exact Nat.ne_of_lt (Nat.lt_trans (le1 p hp) le2)
  intro dd hf2 fE6 nE6 le4
  simp only [List.nil_append, List.cons_append] at nE6 le4
  clear nE5 fE5
  repeat' (first | (fail_if_success (with_reducible show wpAny _ _ (setAttr _ _ _) _ _ _)); first | (k_unfold; (try dsimp only)) | walk1 | (dsimp only; walk1))
  rename News _ _ _ _ => nE7
  rename Fr _ _ _ _ => fE7
  k_dflt (refine' set_next (pre := []) fE7 ?x nE7 ?m (set45 _) (line45 _) (tak45s _) (fun p hp => nomatch hp) ?b ?l (putName_dict ..) ?z ?_)
  case x => k_asm
  case m => exact List.mem_cons_of_mem _ (List.mem_cons_of_mem _ (List.mem_cons_self ..))
  case b =>
    intro p hp
    exact Nat.ne_of_lt (le4 p hp)
  case l => exact rfl
  case z => exact Nat.le_of_ble_eq_true rfl
  intro hf3 fE8 nE8
  simp only [List.nil_append] at nE8
  clear nE7 fE7
  repeat' (first | (fail_if_success (with_reducible show OwnRaised _ _ _)); first | (k_unfold; (try dsimp only)) | walk1 | (dsimp only; walk1))
  rename News _ _ _ _ => nE9
  rename Fr _ _ _ _ => fE9
  refine' ⟨xe, tf, 45, some dd, Mine.hd.heap_39 w.params, rfl, ?x, own45 _, base45 _, (nE9 _ (List.mem_cons_of_mem _ (List.mem_cons_of_mem _ (List.mem_cons_self ..)))).1, ?_⟩
  case x => exact Frag.In.keeps (by k_asm) fE9.keep
  k_unfold
  (try dsimp only)
  have mE : ∀ p ∈ news, p.1 < te := fun p hp => le1 p (List.mem_cons_of_mem _ hp)
  k_dflt (refine' leave_own ?k1 fE9 (fun p hp => nE9 p (List.mem_cons_of_mem _ (List.mem_cons_of_mem _ (List.mem_cons_of_mem _ (List.mem_cons_of_mem _ (List.mem_cons_of_mem _ hp)))))) (nE9 _ (List.mem_cons_of_mem _ (List.mem_cons_of_mem _ (List.mem_cons_self ..)))).1 (nE9 _ (List.mem_cons_of_mem _ (List.mem_cons_of_mem _ (List.mem_cons_self ..)))).2.2 (nE9 _ (List.mem_cons_of_mem _ (List.mem_cons_self ..))).1 (nE9 _ (List.mem_cons_of_mem _ (List.mem_cons_self ..))).2.2 ?k2 ?_)
  case k1 => k_asm
  case k2 =>
    intro p hp
    have q1 := mE p hp
    have q2 := le3 (xe, excO 45 tf none) (List.mem_cons_self ..)
    exact ⟨Nat.ne_of_lt (Nat.lt_trans q1 le2), Nat.ne_of_lt (Nat.lt_trans (Nat.lt_trans q1 le2) q2)⟩
  intro h' S' R' U'
  (try dsimp only at S' R' U' ⊢)
  k_steps
  refine' hret _ _ _ _ ?ea ?eb ?ec
  case eb => k_asm
  case ec => k_asm
  case ea => exact ⟨rfl, rfl⟩
theorem refused_pow (a b : Int) (to ta tb : Tok) (news : List (Addr × Obj)) :
    Says0 6 129 news [.str (Str.ofString "**") to, .int a ta, .int b tb] fun r news' => r = .bool true ∧ news' = news := by
  unfold Says0
  k_fill
  intro w mean mg mb dp un gd cn cs a ccd A₀ base h₀ L m s Q E B₀ F X N T hk hd hu hret
  have B : Below A₀ h₀ [] h₀ := ⟨B₀.stack, fun _ _ e => e, trivial⟩
  clear B₀
  refine wpAny_call ?_
  k_dflt walk_at "mine enterS"
  repeat' (first | (fail_if_success (with_reducible show wpAny _ _ (call (Value.ref 45) _) _ _ _)); first | (k_unfold; (try dsimp only)) | walk1 | (dsimp only; walk1))
  rename News _ _ _ _ => nE
  rename Fr _ _ _ _ => fE
  k_dflt (refine' call_exc fE ?x nE (own45 _) (in45 _) (fn29 _) (Nat.le_of_ble_eq_true rfl) ?_)
  case x => k_asm
  intro xe te he fE2 nE2 le1 le2
  k_dflt (walk_at "mine enter")
  repeat' (first | (fail_if_success (with_reducible show wpAny _ _ (call (Value.builtin "Exception.__init__") _) _ _ _)); first | (k_unfold; (try dsimp only)) | walk1 | (dsimp only; walk1))
  rename News _ _ _ _ => nE3
  rename Fr _ _ _ _ => fE3
  k_dflt (refine' init_own (pre := []) fE3 ?x nE3 (own45 _) (fun p hp => nomatch hp) ?o (Nat.le_of_ble_eq_true rfl) ?_)
  case x => k_asm
  case o =>
    intro p hp
    rcases List.mem_cons.mp hp with rfl | hp
    · exact Nat.ne_of_lt le2
    · exact Nat.ne_of_lt (Nat.lt_trans (le1 p hp) le2)
  intro tf hf fE4 nE4 le3
  simp only [List.nil_append] at nE4 le3
  clear nE3 fE3
  repeat' (first | (fail_if_success (with_reducible show wpAny _ _ (setAttr _ _ _) _ _ _)); first | (k_unfold; (try dsimp only)) | walk1 | (dsimp only; walk1))
  rename News _ _ _ _ => nE5
  rename Fr _ _ _ _ => fE5
  k_dflt (refine' set_first (pre := [(tf, _)]) fE5 ?x nE5 (set45 _) (line45 _) (tak45m _) ?a ?b (putName_dict ..) ?z ?_)
  case x => k_asm
  case z => exact Nat.le_of_ble_eq_true rfl
  case a =>
    intro p hp
    cases List.mem_singleton.mp hp
    exact Nat.ne_of_gt (le3 _ (List.mem_cons_self ..))
  case b =>
    intro p hp
    rcases List.mem_cons.mp hp with rfl | hp
    · exact Nat.ne_of_lt le2
    · exact Nat.ne_of_lt (Nat.lt_trans (le1 p hp) le2)
  intro dd hf2 fE6 nE6 le4
  simp only [List.nil_append, List.cons_append] at nE6 le4
  clear nE5 fE5
  repeat' (first | (fail_if_success (with_reducible show wpAny _ _ (setAttr _ _ _) _ _ _)); first | (k_unfold; (try dsimp only)) | walk1 | (dsimp only; walk1))
  rename News _ _ _ _ => nE7
  rename Fr _ _ _ _ => fE7
  k_dflt (refine' set_next (pre := []) fE7 ?x nE7 ?m (set45 _) (line45 _) (tak45s _) (fun p hp => nomatch hp) ?b ?l (putName_dict ..) ?z ?_)
  case x => k_asm
  case m => exact List.mem_cons_of_mem _ (List.mem_cons_of_mem _ (List.mem_cons_self ..))
  case b =>
    intro p hp
    exact Nat.ne_of_lt (le4 p hp)
  case l => exact rfl
  case z => exact Nat.le_of_ble_eq_true rfl
  intro hf3 fE8 nE8
  simp only [List.nil_append] at nE8
  clear nE7 fE7
  repeat' (first | (fail_if_success (with_reducible show OwnRaised _ _ _)); first | (k_unfold; (try dsimp only)) | walk1 | (dsimp only; walk1))
  rename News _ _ _ _ => nE9
  rename Fr _ _ _ _ => fE9
  refine' ⟨xe, tf, 45, some dd, Mine.hd.heap_39 w.params, rfl, ?x, own45 _, base45 _, (nE9 _ (List.mem_cons_of_mem _ (List.mem_cons_of_mem _ (List.mem_cons_self ..)))).1, ?_⟩
  case x => exact Frag.In.keeps (by k_asm) fE9.keep
  k_unfold
  (try dsimp only)
  have mE : ∀ p ∈ news, p.1 < te := fun p hp => le1 p (List.mem_cons_of_mem _ hp)
  k_dflt (refine' leave_own ?k1 fE9 (fun p hp => nE9 p (List.mem_cons_of_mem _ (List.mem_cons_of_mem _ (List.mem_cons_of_mem _ (List.mem_cons_of_mem _ (List.mem_cons_of_mem _ hp)))))) (nE9 _ (List.mem_cons_of_mem _ (List.mem_cons_of_mem _ (List.mem_cons_self ..)))).1 (nE9 _ (List.mem_cons_of_mem _ (List.mem_cons_of_mem _ (List.mem_cons_self ..)))).2.2 (nE9 _ (List.mem_cons_of_mem _ (List.mem_cons_self ..))).1 (nE9 _ (List.mem_cons_of_mem _ (List.mem_cons_self ..))).2.2 ?k2 ?_)
  case k1 => k_asm
  case k2 =>
    intro p hp
    have q1 := mE p hp
    have q2 := le3 (xe, excO 45 tf none) (List.mem_cons_self ..)
    exact ⟨Nat.ne_of_lt (Nat.lt_trans q1 le2), Nat.ne_of_lt (Nat.lt_trans (Nat.lt_trans q1 le2) q2)⟩
  intro h' S' R' U'
  (try dsimp only at S' R' U' ⊢)
  k_steps
  refine' hret _ _ _ _ ?ea ?eb ?ec
  case eb => k_asm
  case ec => k_asm
  case ea => exact ⟨rfl, rfl⟩
theorem refused_and (a b : Int) (to ta tb : Tok) (news : List (Addr × Obj)) :
    Says0 6 129 news [.str (Str.ofString "&&") to, .int a ta, .int b tb] fun r news' => r = .bool true ∧ news' = news := by
  unfold Says0
  k_fill
  intro w mean mg mb dp un gd cn cs a ccd A₀ base h₀ L m s Q E B₀ F X N T hk hd hu hret
  have B : Below A₀ h₀ [] h₀ := ⟨B₀.stack, fun _ _ e => e, trivial⟩
  clear B₀
  refine wpAny_call ?_
  k_dflt walk_at "mine enterS"
  repeat' (first | (fail_if_success (with_reducible show wpAny _ _ (call (Value.ref 45) _) _ _ _)); first | (k_unfold; (try dsimp only)) | walk1 | (dsimp only; walk1))
  rename News _ _ _ _ => nE
  rename Fr _ _ _ _ => fE
  k_dflt (refine' call_exc fE ?x nE (own45 _) (in45 _) (fn29 _) (Nat.le_of_ble_eq_true rfl) ?_)
  case x => k_asm
  intro xe te he fE2 nE2 le1 le2
  k_dflt (walk_at "mine enter")
  repeat' (first | (fail_if_success (with_reducible show wpAny _ _ (call (Value.builtin "Exception.__init__") _) _ _ _)); first | (k_unfold; (try dsimp only)) | walk1 | (dsimp only; walk1))
  rename News _ _ _ _ => nE3
  rename Fr _ _ _ _ => fE3
  k_dflt (refine' init_own (pre := []) fE3 ?x nE3 (own45 _) (fun p hp => nomatch hp) ?o (Nat.le_of_ble_eq_true rfl) ?_)
  case x => k_asm
  case o =>
    intro p hp
    rcases List.mem_cons.mp hp with rfl | hp
    · exact Nat.ne_of_lt le2
    · exact Nat.ne_of_lt (Nat.lt_trans (le1 p hp) le2)
  intro tf hf fE4 nE4 le3
  simp only [List.nil_append] at nE4 le3
  clear nE3 fE3
  repeat' (first | (fail_if_success (with_reducible show wpAny _ _ (setAttr _ _ _) _ _ _)); first | (k_unfold; (try dsimp only)) | walk1 | (dsimp only; walk1))
  rename News _ _ _ _ => nE5
  rename Fr _ _ _ _ => fE5
  k_dflt (refine' set_first (pre := [(tf, _)]) fE5 ?x nE5 (set45 _) (line45 _) (tak45m _) ?a ?b (putName_dict ..) ?z ?_)
  case x => k_asm
  case z => exact Nat.le_of_ble_eq_true rfl
  case a =>
    intro p hp
    cases List.mem_singleton.mp hp
    exact Nat.ne_of_gt (le3 _ (List.mem_cons_self ..))
  case b =>
    intro p hp
    rcases List.mem_cons.mp hp with rfl | hp
    · exact Nat.ne_of_lt le2
    · exact Nat.ne_of_lt (Nat.lt_trans (le1 p hp) le2)
  intro dd hf2 fE6 nE6 le4
  simp only [List.nil_append, List.cons_append] at nE6 le4
  clear nE5 fE5
  repeat' (first | (fail_if_success (with_reducible show wpAny _ _ (setAttr _ _ _) _ _ _)); first | (k_unfold; (try dsimp only)) | walk1 | (dsimp only; walk1))
  rename News _ _ _ _ => nE7
  rename Fr _ _ _ _ => fE7
  k_dflt (refine' set_next (pre := []) fE7 ?x nE7 ?m (set45 _) (line45 _) (tak45s _) (fun p hp => nomatch hp) ?b ?l (putName_dict ..) ?z ?_)
  case x => k_asm
  case m => exact List.mem_cons_of_mem _ (List.mem_cons_of_mem _ (List.mem_cons_self ..))
  case b =>
    intro p hp
    exact Nat.ne_of_lt (le4 p hp)
  case l => exact rfl
  case z => exact Nat.le_of_ble_eq_true rfl
  intro hf3 fE8 nE8
  simp only [List.nil_append] at nE8
  clear nE7 fE7
  repeat' (first | (fail_if_success (with_reducible show OwnRaised _ _ _)); first | (k_unfold; (try dsimp only)) | walk1 | (dsimp only; walk1))
  rename News _ _ _ _ => nE9
  rename Fr _ _ _ _ => fE9
  refine' ⟨xe, tf, 45, some dd, Mine.hd.heap_39 w.params, rfl, ?x, own45 _, base45 _, (nE9 _ (List.mem_cons_of_mem _ (List.mem_cons_of_mem _ (List.mem_cons_self ..)))).1, ?_⟩
  case x => exact Frag.In.keeps (by k_asm) fE9.keep
  k_unfold
  (try dsimp only)
  have mE : ∀ p ∈ news, p.1 < te := fun p hp => le1 p (List.mem_cons_of_mem _ hp)
  k_dflt (refine' leave_own ?k1 fE9 (fun p hp => nE9 p (List.mem_cons_of_mem _ (List.mem_cons_of_mem _ (List.mem_cons_of_mem _ (List.mem_cons_of_mem _ (List.mem_cons_of_mem _ hp)))))) (nE9 _ (List.mem_cons_of_mem _ (List.mem_cons_of_mem _ (List.mem_cons_self ..)))).1 (nE9 _ (List.mem_cons_of_mem _ (List.mem_cons_of_mem _ (List.mem_cons_self ..)))).2.2 (nE9 _ (List.mem_cons_of_mem _ (List.mem_cons_self ..))).1 (nE9 _ (List.mem_cons_of_mem _ (List.mem_cons_self ..))).2.2 ?k2 ?_)
  case k1 => k_asm
  case k2 =>
    intro p hp
    have q1 := mE p hp
    have q2 := le3 (xe, excO 45 tf none) (List.mem_cons_self ..)
    exact ⟨Nat.ne_of_lt (Nat.lt_trans q1 le2), Nat.ne_of_lt (Nat.lt_trans (Nat.lt_trans q1 le2) q2)⟩
  intro h' S' R' U'
  (try dsimp only at S' R' U' ⊢)
  k_steps
  refine' hret _ _ _ _ ?ea ?eb ?ec
  case eb => k_asm
  case ec => k_asm
  case ea => exact ⟨rfl, rfl⟩
end Mine
end

section
set_option maxRecDepth 100000
set_option maxHeartbeats 8000000
open PySem PySem.W PySem.Spec PySem.Calls PyProof.Rows
namespace Mine
theorem right_all (v : Value) (a b : Int) (ta tb : Tok) (news : List (Addr × Obj)) {t0 t1 t2 t3 t4 t5 t6 t7 : Tok}
    (hv : v ∈ [Value.str (Str.ofString "+") t0, .str (Str.ofString "-") t1, .str (Str.ofString "*") t2, .str (Str.ofString "/") t3, .str (Str.ofString "%") t4, .str (Str.ofString "&") t5, .str (Str.ofString "|") t6, .str (Str.ofString "^") t7])
    (ha : a.natAbs < 18446744073709551620) (hb : b.natAbs < 18446744073709551620) : Says 6 122 news [v, .int a ta, .int b tb] fun r news' => r = .bool true ∧ ∀ p ∈ news, p ∈ news' := by
  simp only [List.mem_cons, List.not_mem_nil, or_false] at hv
  rcases hv with rfl | rfl | rfl | rfl | rfl | rfl | rfl | rfl
  · exact right_add a b _ ta tb news
  · exact right_sub a b _ ta tb news
  · exact right_mul a b _ ta tb news ha hb
  · by_cases h : b = 0
    · subst h; exact right_div0 a _ ta tb news
    · exact right_div a b _ ta tb news ha h hb
  · by_cases h : b = 0
    · subst h; exact right_rem0 a _ ta tb news
    · exact right_rem a b _ ta tb news ha h hb
  · exact right_and a b _ ta tb news ha hb
  · exact right_or a b _ ta tb news ha hb
  · exact right_xor a b _ ta tb news ha hb
theorem refused_all (v : Value) (a b : Int) (ta tb : Tok) (news : List (Addr × Obj)) {t0 t1 t2 t3 t4 : Tok}
    (hv : v ∈ [Value.str (Str.ofString ">>") t0, .str (Str.ofString "==") t1, .str (Str.ofString "") t2, .str (Str.ofString "**") t3, .str (Str.ofString "&&") t4]) :
    Says0 6 129 news [v, .int a ta, .int b tb] fun r news' => r = .bool true ∧ news' = news := by
  simp only [List.mem_cons, List.not_mem_nil, or_false] at hv
  rcases hv with rfl | rfl | rfl | rfl | rfl
  · exact refused_shr a b _ ta tb news
  · exact refused_eq a b _ ta tb news
  · exact refused_none a b _ ta tb news
  · exact refused_pow a b _ ta tb news
  · exact refused_and a b _ ta tb news
theorem Says0.use {d : Nat} {f : Addr} {news : List (Addr × Obj)} {vs : List Value} {R : Value → List (Addr × Obj) → Prop} {w : World} {mean : ExcName → Option Value} {mg mb : Str → Option Value} {dp un : Nat} {gd : Option (List Code)} {cn : Str} {cs : Scope} {a : Addr} {ccd : Value} {A₀ : Around} {base h₀ : Heap} {L : Addr} {m : Str → Option Value} {s : Shared} {Q E : Value → Shared → Prop}
    (B : Below A₀ base [] h₀) (F : Fr h₀ L s.heap m) (X : (hd.heap_39 w.params).In h₀) (T : Top hd.view_39 lo mean mg mb h₀) (hk : cs.kind = .function) (C : Says0 d f news vs R) (N : News h₀ L s.heap news)
    (hd : dp + d < recursionLimit) (hu : un + 8 * d < cLine)
    (ret : ∀ (r : Value) (news' : List (Addr × Obj)) (h' : Heap) (tk' : Nat), R r news' → Fr h₀ L h' m → News h₀ L h' news' → Q r { s with heap := h', toks := tk' }) :
    wpAny (model PySem.Challenge.rw_xm0575_01.row.prog w) (ktrTop dp un gd cn cs L a ccd [] []) (call (.ref f) vs) Q E s :=
  C w mean mg mb dp un gd cn cs a ccd A₀ base h₀ L m s Q E B F X N T hk hd hu ret
end Mine
end

section
open PySem PySem.W PySem.Spec PySem.Calls PyProof.Rows
set_option maxRecDepth 100000
set_option maxHeartbeats 8000000
namespace Mine
local macro_rules | `(tactic| walk_at "mine enter") => `(tactic| (refine' code_def ?k1 ?k2 ?k3 ?k4 ?k5 ?kA ?kF ?kK ?k6 ?k7 ?k8 ?k9 ?kB ?_ ?c2 ?c3 ?c4 ?c5; (case kA => exact rfl); (case kF => exact rfl); (case kK => first | exact rfl | assumption); (case k1 => k_asm); (case k2 => k_asm); (case k3 => k_asm); (case k4 => k_asm); (case k5 => k_asm); (case k6 => k_is); (case k7 => k_is); (case k8 => ktr_room); (case k9 => first | exact BindsTo.of_eq rfl | exact binds_K (by k_in) rfl (by k_is) rfl rfl rfl); (case c5 => decide); (case kB => exact locs rfl); (case c2 => exact rfl); (case c3 => exact rfl); (case c4 => exact rfl); k_whole; intro g' L' h' FG' F' N' B' X' T'; (try dsimp only); (try k_lift B'); (try k_fold)))
local macro_rules | `(tactic| walk_at "binaryOp Mod int int") => `(tactic| (k_here; (with_reducible refine mod_pos ?kb ?_); (case kb => omega); intro r9 hr9 hr9a hr9b))
def PoolSays : Prop :=
  ∀ (w : World) (mean : ExcName → Option Value) (mg mb : Str → Option Value) (dp un : Nat) (gd : Option (List Code)) (cn : Str) (cs : Scope) (a : Addr) (ccd : Value) (A₀ : Around) (base h₀ : Heap) (L : Addr) (m : Str → Option Value) (s : Shared) (Q E : Value → Shared → Prop) (news : List (Addr × Obj))
    (ax : Addr) (vs : List Value) (ns : List Int) (as : List Addr) (tz : Tok),
    Below A₀ base [] h₀ → Fr h₀ L s.heap m → (hd.heap_39 w.params).In h₀ → News h₀ L s.heap news → Top hd.view_39 lo mean mg mb h₀ → cs.kind = .function →
    h₀.IsList ax vs.toArray → ReadsAll h₀ vs (List.map PyData.int ns) as → IntsAre vs ns → ¬ ((63 : Nat) : Int) < (ns.length : Int) →
    dp + 1 < recursionLimit → un + 8 * 1 < cLine →
    (∀ (l : Addr) (x y : Int) (tx ty : Tok) (h' : Heap) (tk' : Nat), 0 ≤ x → 0 ≤ y → y < 2147483648 → Fr h₀ L h' m → News h₀ L h' ((l, lst [.int x tx, .int y ty] 0) :: news) → (∀ p ∈ news, p.1 < l) → Q (.ref l) { s with heap := h', toks := tk' }) →
    wpAny (model PySem.Challenge.rw_xm0575_01.row.prog w) (ktrTop dp un gd cn cs L a ccd [] []) (call (.ref 75) [.ref ax, .int 0 tz]) Q E s
theorem pool_says : PoolSays := by
  unfold PoolSays
  k_fill
  intro w mean mg mb dp un gd cn cs a ccd A₀ base h₀ L m s Q E news ax vs ns as tz B₀ F X N T hk hL ra hI hcond hd hu hret
  have B : Below A₀ h₀ [] h₀ := ⟨B₀.stack, fun _ _ e => e, trivial⟩
  clear B₀
  refine wpAny_call ?_
  k_dflt walk_at "mine enter"
  k_steps
  all_goals (refine hret _ _ _ _ _ _ _ ?_ ?_ ?_ (by k_asm) (by k_asm) (by assumption))
  all_goals first
    | assumption
    | omega
    | (refine Int.mul_nonneg ?_ ?_ <;> split <;> omega)
theorem pool_use {w : World} {mean : ExcName → Option Value} {mg mb : Str → Option Value} {dp un : Nat} {gd : Option (List Code)} {cn : Str} {cs : Scope} {a : Addr} {ccd : Value} {A₀ : Around} {base h₀ : Heap} {L : Addr} {m : Str → Option Value} {s : Shared} {Q E : Value → Shared → Prop} {news : List (Addr × Obj)}
    {ax : Addr} {vs : List Value} {ns : List Int} {as : List Addr} {tz : Tok}
    (B : Below A₀ base [] h₀) (F : Fr h₀ L s.heap m) (X : (hd.heap_39 w.params).In h₀) (T : Top hd.view_39 lo mean mg mb h₀) (hk : cs.kind = .function) (N : News h₀ L s.heap news)
    (hL : h₀.IsList ax vs.toArray) (ra : ReadsAll h₀ vs (List.map PyData.int ns) as) (hI : IntsAre vs ns) (hcond : ¬ ((63 : Nat) : Int) < (ns.length : Int))
    (hd : dp + 1 < recursionLimit) (hu : un + 8 * 1 < cLine)
    (hret : ∀ (l : Addr) (x y : Int) (tx ty : Tok) (h' : Heap) (tk' : Nat), 0 ≤ x → 0 ≤ y → y < 2147483648 → Fr h₀ L h' m → News h₀ L h' ((l, lst [.int x tx, .int y ty] 0) :: news) → (∀ p ∈ news, p.1 < l) → Q (.ref l) { s with heap := h', toks := tk' }) :
    wpAny (model PySem.Challenge.rw_xm0575_01.row.prog w) (ktrTop dp un gd cn cs L a ccd [] []) (call (.ref 75) [.ref ax, .int 0 tz]) Q E s :=
  pool_says _ _ _ _ _ _ _ _ _ _ _ _ _ _ _ _ _ _ _ _ _ _ _ _ _ B F X N T hk hL ra hI hcond hd hu hret
end Mine
end

section
open PySem PySem.W PySem.Spec PySem.Calls PyProof.Rows
set_option maxRecDepth 100000
set_option maxHeartbeats 8000000
namespace Mine
local macro_rules | `(tactic| walk_at "mine enter") => `(tactic| (refine' code_def ?k1 ?k2 ?k3 ?k4 ?k5 ?kA ?kF ?kK ?k6 ?k7 ?k8 ?k9 ?kB ?_ ?c2 ?c3 ?c4 ?c5; (case kA => exact rfl); (case kF => exact rfl); (case kK => first | exact rfl | assumption); (case k1 => k_asm); (case k2 => k_asm); (case k3 => k_asm); (case k4 => k_asm); (case k5 => k_asm); (case k6 => k_is); (case k7 => k_is); (case k8 => ktr_room); (case k9 => first | exact BindsTo.of_eq rfl | exact binds_K (by k_in) rfl (by k_is) rfl rfl rfl); (case c5 => decide); (case kB => exact locs rfl); (case c2 => exact rfl); (case c3 => exact rfl); (case c4 => exact rfl); k_whole; intro g' L' h' FG' F' N' B' X' T'; (try dsimp only); (try k_lift B'); (try k_fold)))
/-- Whether a kind's text opens with "i". -/
def sgn : Value → Bool
  | .str x _ => x.cps.getD 0 0 == 105
  | _ => false
section
theorem signed_i8 (t : Tok) (news : List (Addr × Obj)) : Says 1 54 news [.str (Str.ofString "i8") t] fun r news' => r = .bool true ∧ news' = news := by
  unfold Says
  k_fill
  intro w mean mg mb dp un gd cn cs a ccd cl outer A₀ base h₀ L m s Q E B F X N T hk hd hu hret
  refine wpAny_call ?_
  k_dflt walk_at "mine enter"
  k_steps
  refine' hret _ _ _ _ ?ea ?eb ?ec
  case eb => k_asm
  case ec => k_asm
  case ea => exact ⟨rfl, rfl⟩
theorem signed_i16 (t : Tok) (news : List (Addr × Obj)) : Says 1 54 news [.str (Str.ofString "i16") t] fun r news' => r = .bool true ∧ news' = news := by
  unfold Says
  k_fill
  intro w mean mg mb dp un gd cn cs a ccd cl outer A₀ base h₀ L m s Q E B F X N T hk hd hu hret
  refine wpAny_call ?_
  k_dflt walk_at "mine enter"
  k_steps
  refine' hret _ _ _ _ ?ea ?eb ?ec
  case eb => k_asm
  case ec => k_asm
  case ea => exact ⟨rfl, rfl⟩
theorem signed_i32 (t : Tok) (news : List (Addr × Obj)) : Says 1 54 news [.str (Str.ofString "i32") t] fun r news' => r = .bool true ∧ news' = news := by
  unfold Says
  k_fill
  intro w mean mg mb dp un gd cn cs a ccd cl outer A₀ base h₀ L m s Q E B F X N T hk hd hu hret
  refine wpAny_call ?_
  k_dflt walk_at "mine enter"
  k_steps
  refine' hret _ _ _ _ ?ea ?eb ?ec
  case eb => k_asm
  case ec => k_asm
  case ea => exact ⟨rfl, rfl⟩
theorem signed_i64 (t : Tok) (news : List (Addr × Obj)) : Says 1 54 news [.str (Str.ofString "i64") t] fun r news' => r = .bool true ∧ news' = news := by
  unfold Says
  k_fill
  intro w mean mg mb dp un gd cn cs a ccd cl outer A₀ base h₀ L m s Q E B F X N T hk hd hu hret
  refine wpAny_call ?_
  k_dflt walk_at "mine enter"
  k_steps
  refine' hret _ _ _ _ ?ea ?eb ?ec
  case eb => k_asm
  case ec => k_asm
  case ea => exact ⟨rfl, rfl⟩
theorem signed_u8 (t : Tok) (news : List (Addr × Obj)) : Says 1 54 news [.str (Str.ofString "u8") t] fun r news' => r = .bool false ∧ news' = news := by
  unfold Says
  k_fill
  intro w mean mg mb dp un gd cn cs a ccd cl outer A₀ base h₀ L m s Q E B F X N T hk hd hu hret
  refine wpAny_call ?_
  k_dflt walk_at "mine enter"
  k_steps
  refine' hret _ _ _ _ ?ea ?eb ?ec
  case eb => k_asm
  case ec => k_asm
  case ea => exact ⟨rfl, rfl⟩
theorem signed_u16 (t : Tok) (news : List (Addr × Obj)) : Says 1 54 news [.str (Str.ofString "u16") t] fun r news' => r = .bool false ∧ news' = news := by
  unfold Says
  k_fill
  intro w mean mg mb dp un gd cn cs a ccd cl outer A₀ base h₀ L m s Q E B F X N T hk hd hu hret
  refine wpAny_call ?_
  k_dflt walk_at "mine enter"
  k_steps
  refine' hret _ _ _ _ ?ea ?eb ?ec
  case eb => k_asm
  case ec => k_asm
  case ea => exact ⟨rfl, rfl⟩
theorem signed_u32 (t : Tok) (news : List (Addr × Obj)) : Says 1 54 news [.str (Str.ofString "u32") t] fun r news' => r = .bool false ∧ news' = news := by
  unfold Says
  k_fill
  intro w mean mg mb dp un gd cn cs a ccd cl outer A₀ base h₀ L m s Q E B F X N T hk hd hu hret
  refine wpAny_call ?_
  k_dflt walk_at "mine enter"
  k_steps
  refine' hret _ _ _ _ ?ea ?eb ?ec
  case eb => k_asm
  case ec => k_asm
  case ea => exact ⟨rfl, rfl⟩
theorem signed_u64 (t : Tok) (news : List (Addr × Obj)) : Says 1 54 news [.str (Str.ofString "u64") t] fun r news' => r = .bool false ∧ news' = news := by
  unfold Says
  k_fill
  intro w mean mg mb dp un gd cn cs a ccd cl outer A₀ base h₀ L m s Q E B F X N T hk hd hu hret
  refine wpAny_call ?_
  k_dflt walk_at "mine enter"
  k_steps
  refine' hret _ _ _ _ ?ea ?eb ?ec
  case eb => k_asm
  case ec => k_asm
  case ea => exact ⟨rfl, rfl⟩
theorem signed_usize (t : Tok) (news : List (Addr × Obj)) : Says 1 54 news [.str (Str.ofString "usize") t] fun r news' => r = .bool false ∧ news' = news := by
  unfold Says
  k_fill
  intro w mean mg mb dp un gd cn cs a ccd cl outer A₀ base h₀ L m s Q E B F X N T hk hd hu hret
  refine wpAny_call ?_
  k_dflt walk_at "mine enter"
  k_steps
  refine' hret _ _ _ _ ?ea ?eb ?ec
  case eb => k_asm
  case ec => k_asm
  case ea => exact ⟨rfl, rfl⟩
theorem signed_all (v : Value) (news : List (Addr × Obj)) {t0 t1 t2 t3 t4 t5 t6 t7 t8 : Tok} (hv : v ∈ [Value.str (Str.ofString "i8") t0, .str (Str.ofString "i16") t1, .str (Str.ofString "i32") t2, .str (Str.ofString "i64") t3, .str (Str.ofString "u8") t4, .str (Str.ofString "u16") t5, .str (Str.ofString "u32") t6, .str (Str.ofString "u64") t7, .str (Str.ofString "usize") t8]) :
    Says 1 54 news [v] fun r news' => r = .bool (sgn v) ∧ news' = news := by
  simp only [List.mem_cons, List.not_mem_nil, or_false] at hv
  rcases hv with rfl | rfl | rfl | rfl | rfl | rfl | rfl | rfl | rfl
  · exact signed_i8 _ news
  · exact signed_i16 _ news
  · exact signed_i32 _ news
  · exact signed_i64 _ news
  · exact signed_u8 _ news
  · exact signed_u16 _ news
  · exact signed_u32 _ news
  · exact signed_u64 _ news
  · exact signed_usize _ news
end
section
variable {prog : Program} {w : World} {A : Around} {E : Value → Shared → Prop} {s : Shared} {h₀ : Heap} {L : Addr} {m : Str → Option Value} {Q : Value → Shared → Prop} {news : List (Addr × Obj)} {v : Value} {l : Addr} {n : Nat} {c : Bool}
theorem eq_same (h : Q (.bool true) s) : wpAny (model prog w) A (compareOp .Eq (.bool c) (.bool c)) Q E s := eq_bool (by rw [beq_self_eq_true]; exact h)
theorem notin_kinds {t0 t1 t2 t3 t4 t5 t6 t7 t8 u0 u1 u2 u3 u4 : Tok} (F : Fr h₀ L s.heap m) (N : News h₀ L s.heap news) (hl : (l, lst [.str (Str.ofString "u8") u0, .str (Str.ofString "u16") u1, .str (Str.ofString "u32") u2, .str (Str.ofString "u64") u3, .str (Str.ofString "usize") u4] n) ∈ news)
    (hv : v ∈ [Value.str (Str.ofString "i8") t0, .str (Str.ofString "i16") t1, .str (Str.ofString "i32") t2, .str (Str.ofString "i64") t3, .str (Str.ofString "u8") t4, .str (Str.ofString "u16") t5, .str (Str.ofString "u32") t6, .str (Str.ofString "u64") t7, .str (Str.ofString "usize") t8]) (h : Q (.bool (sgn v)) s) : wpAny (model prog w) A (compareOp .NotIn v (.ref l)) Q E s := by
  simp only [List.mem_cons, List.not_mem_nil, or_false] at hv
  rcases hv with rfl | rfl | rfl | rfl | rfl | rfl | rfl | rfl | rfl
  all_goals
    refine notin_list_strs (ys := [Str.ofString "u8", Str.ofString "u16", Str.ofString "u32", Str.ofString "u64", Str.ofString "usize"]) ⟨_, (N _ hl).1, rfl, _, rfl⟩ ?_ ?_
    · repeat constructor
    · exact h
end
section
variable {M : Model} {A : Around} {E : Value → Shared → Prop} {s : Shared} {h₀ : Heap} {L l : Addr} {m : Str → Option Value} {env : Env}
/-- The end of `if …: b = 0`, whichever way it went. -/
def JoinB (h₀ : Heap) (L : Addr) (m : Str → Option Value) (l : Addr) (s : Shared) (f : Flow) (s' : Shared) : Prop :=
  f = .next ∧ ∃ (b' : Int) (tb' : Tok) (x y : Int) (tx ty : Tok) (h' : Heap) (tk' : Nat), s' = { s with heap := h', toks := tk' } ∧ b'.natAbs < 18446744073709551620 ∧ 0 ≤ x ∧ 0 ≤ y ∧ y < 2147483648 ∧
    Fr h₀ L h' (fun z => if z = Str.ofString "b" then some (.int b' tb') else m z) ∧ News h₀ L h' [(l, lst [.int x tx, .int y ty] 0)]
theorem join_keep {h' : Heap} {v : Value} (hb : m (Str.ofString "b") = some v) (F : Fr h₀ L h' m) : Fr h₀ L h' (fun z => if z = Str.ofString "b" then some v else m z) := by
  have e : (fun z => if z = Str.ofString "b" then some v else m z) = m := by
    funext z
    by_cases q : z = Str.ofString "b"
    · rw [if_pos q, q, hb]
    · rw [if_neg q]
  rw [e]
  exact F
theorem join_b {st : Stmt} {Q : Flow → Shared → Prop} (F0 : Fr h₀ L s.heap m) (hs : m (Str.ofString "source") = some (.ref l))
    (h : wpAny M A (exec st env) (JoinB h₀ L m l s) E s)
    (k : ∀ (b' : Int) (tb' : Tok) (x y : Int) (tx ty : Tok) (h' : Heap) (tk' : Nat), b'.natAbs < 18446744073709551620 → 0 ≤ x → 0 ≤ y → y < 2147483648 →
      Fr h₀ L h' (fun z => if z = Str.ofString "b" then some (.int b' tb') else m z) → News h₀ L h' [(l, lst [.int x tx, .int y ty] 0)] → Q .next { s with heap := h', toks := tk' }) :
    wpAny M A (exec st env) Q E s := by
  refine wpAny_mono h (fun f s' hj => ?_) fun _ _ e => e
  obtain ⟨rfl, b', tb', x, y, tx, ty, h', tk', rfl, h1, h2, h3, h4, F', N'⟩ := hj
  exact k b' tb' x y tx ty h' tk' h1 h2 h3 h4 F' N'
end
end Mine
end

section
open PySem PySem.W PySem.Spec PySem.Calls PyProof.Rows
set_option maxRecDepth 100000
set_option maxHeartbeats 8000000
namespace Mine
local macro_rules | `(tactic| walk_at "mine enter") => `(tactic| (refine' code_def ?k1 ?k2 ?k3 ?k4 ?k5 ?kA ?kF ?kK ?k6 ?k7 ?k8 ?k9 ?kB ?_ ?c2 ?c3 ?c4 ?c5; (case kA => exact rfl); (case kF => exact rfl); (case kK => first | exact rfl | assumption); (case k1 => k_asm); (case k2 => k_asm); (case k3 => k_asm); (case k4 => k_asm); (case k5 => k_asm); (case k6 => k_is); (case k7 => k_is); (case k8 => ktr_room); (case k9 => first | exact BindsTo.of_eq rfl | exact binds_K (by k_in) rfl (by k_is) rfl rfl rfl); (case c5 => decide); (case kB => exact locs rfl); (case c2 => exact rfl); (case c3 => exact rfl); (case c4 => exact rfl); k_whole; intro g' L' h' FG' F' N' B' X' T'; (try dsimp only); (try k_lift B'); (try k_fold)))
local macro_rules | `(tactic| walk_at "eval ListComp") => `(tactic| (k_here; k_dflt (refine LCg.ListComp_U (F₀ := by k_asm) (by with_unfolding_all rfl) (by decide) (by rfl) (by decide) (by rfl) ?_); k_dflt lcg_toSrc))
local macro_rules | `(tactic| walk_at "mine refused") => `(tactic| (
  refine' Says0.use ?k1 ?k2 ?k3 ?k5 ?kK (refused_shl _ _ _ _ _ _) ?k4 ?kd ?ku ?kR
  (case k1 => k_asm)
  (case k2 => k_asm)
  (case k3 => k_asm)
  (case k5 => k_asm)
  (case kK => first | exact rfl | assumption)
  (case k4 => k_asm)
  (case kd => ktr_room)
  (case ku => ktr_units)

  intro r9 n9 h9 tk9 R9 F9 N9
  obtain ⟨hr9, hn9⟩ := R9
  subst hr9
  subst hn9
  (try dsimp only)
  (try k_sweep)
  (try k_fold)))
local macro_rules | `(tactic| walk_at "mine refusedA") => `(tactic| (
  refine' Says0.use ?k1 ?k2 ?k3 ?k5 ?kK (refused_all _ _ _ _ _ _ ?r1) ?k4 ?kd ?ku ?kR
  (case k1 => k_asm)
  (case k2 => k_asm)
  (case k3 => k_asm)
  (case k5 => k_asm)
  (case kK => first | exact rfl | assumption)
  (case k4 => k_asm)
  (case kd => ktr_room)
  (case ku => ktr_units)
  (case r1 => assumption)

  intro r9 n9 h9 tk9 R9 F9 N9
  obtain ⟨hr9, hn9⟩ := R9
  subst hr9
  subst hn9
  (try dsimp only)
  (try k_sweep)
  (try k_fold)))
local macro_rules | `(tactic| walk_at "mine right") => `(tactic| (
  refine' Says.use ?k1 ?k2 ?k3 ?k5 ?kK (right_all _ _ _ _ _ _ ?r1 ?r2 ?r3) ?k4 ?kd ?ku ?kR
  (case k1 => k_asm)
  (case k2 => k_asm)
  (case k3 => k_asm)
  (case k5 => k_asm)
  (case kK => first | exact rfl | assumption)
  (case k4 => k_asm)
  (case kd => ktr_room)
  (case ku => ktr_units)
  (case r1 => assumption)
  (case r2 => first | omega | decide)
  (case r3 => first | omega | decide)

  intro r9 n9 h9 tk9 R9 F9 N8
  obtain ⟨hr9, hn9⟩ := R9
  have N9 := fun p hp => N8 p (hn9 p hp)
  clear N8
  subst hr9
  (try dsimp only)
  (try k_sweep)
  (try k_fold)))
local macro_rules | `(tactic| walk_at "mine number") => `(tactic| (
  refine' Says.use ?k1 ?k2 ?k3 ?k5 ?kK (number_says _ _ _ _ _ _ ?r1 ?r2 ?r3) ?k4 ?kd ?ku ?kR
  (case k1 => k_asm)
  (case k2 => k_asm)
  (case k3 => k_asm)
  (case k5 => k_asm)
  (case kK => first | exact rfl | assumption)
  (case k4 => exact News.pick1 (by k_asm) (by k_mem))
  (case kd => ktr_room)
  (case ku => ktr_units)
  (case r1 => assumption)
  (case r2 => assumption)
  (case r3 => assumption)

  intro r9 n9 h9 tk9 R9 F9 N9
  obtain ⟨v9, x9, y9, tv9, tx9, ty9, hr9, hv0, hv1, hx0, hx1, hy0, hy1, hn9⟩ := R9
  subst hr9
  subst hn9
  (try dsimp only)
  (try k_sweep)
  (try k_fold)))
local macro_rules | `(tactic| walk_at "mine take") => `(tactic| (
  refine' Says.use ?k1 ?k2 ?k3 ?k5 ?kK (take_says _ _ _ _ _ _ _ _ [] ?r1 ?r2 ?r3 ?r4 ?r5 ?r6) ?k4 ?kd ?ku ?kR
  (case k1 => k_asm)
  (case k2 => k_asm)
  (case k3 => k_asm)
  (case k5 => k_asm)
  (case kK => first | exact rfl | assumption)
  (case k4 => exact News.pick1 (by k_asm) (by k_mem))
  (case kd => ktr_room)
  (case ku => ktr_units)
  (case r1 => exact fun _ h => nomatch h)
  (case r2 => assumption)
  (case r3 => assumption)
  (case r4 => assumption)
  (case r5 => first | assumption | omega | decide)
  (case r6 => first | assumption | omega | decide)

  intro r9 n9 h9 tk9 R9 F9 N9
  obtain ⟨f9, x9, y9, tf9, tx9, ty9, hr9, hf0, hf1, hx0, hx1, hy0, hy1, hn9⟩ := R9
  subst hr9
  subst hn9
  (try dsimp only)
  (try k_sweep)
  (try k_fold)))
local macro_rules | `(tactic| walk_at "mine one") => `(tactic| (
  refine' Says.use ?k1 ?k2 ?k3 ?k5 ?kK (one_says _ _ _ _ _ _ _ _ _ [] ?r0 ?r1 ?r2 ?r3 ?r4 ?r5 ?r6) ?k4 ?kd ?ku ?kR
  (case k1 => k_asm)
  (case k2 => k_asm)
  (case k3 => k_asm)
  (case k5 => k_asm)
  (case kK => first | exact rfl | assumption)
  (case k4 => exact News.pick2 (by k_asm) (by k_mem) (by k_mem))
  (case kd => ktr_room)
  (case ku => ktr_units)
  (case r0 => first | assumption | k_ne)
  (case r1 => exact fun _ h => nomatch h)
  (case r2 => assumption)
  (case r3 => assumption)
  (case r4 => assumption)
  (case r5 => exact Nat.le_of_ble_eq_true rfl)
  (case r6 => exact Nat.le_of_ble_eq_true rfl)

  intro r9 n9 h9 tk9 R9 F9 N9
  obtain ⟨x9, y9, tx9, ty9, hr9, hx0, hx1, hy0, hy1, hn9⟩ := R9
  subst hn9
  (try dsimp only)
  (try k_sweep)
  (try k_fold)))
local macro_rules | `(tactic| walk_at "mine pool") => `(tactic| (
  refine' pool_use ?k1 ?k2 ?k3 ?k5 ?kK ?k4 ?r1 ?r2 ?r3 ?r4 ?kd ?ku ?kR
  (case k1 => k_asm)
  (case k2 => k_asm)
  (case k3 => k_asm)
  (case k5 => k_asm)
  (case kK => first | exact rfl | assumption)
  (case k4 => exact News.nil)
  (case r1 => assumption)
  (case r2 => assumption)
  (case r3 => assumption)
  (case r4 => assumption)
  (case kd => ktr_room)
  (case ku => ktr_units)
  intro l9 x9 y9 tx9 ty9 h9 tk9 hx0 hy0 hy1 F9 N9 _
  (try dsimp only)
  (try k_sweep)
  (try k_fold)))
local macro_rules | `(tactic| walk_at "mine signed") => `(tactic| (
  refine' Says.use ?k1 ?k2 ?k3 ?k5 ?kK (signed_all _ _ ?r1) ?k4 ?kd ?ku ?kR
  (case k1 => k_asm)
  (case k2 => k_asm)
  (case k3 => k_asm)
  (case k5 => k_asm)
  (case kK => first | exact rfl | assumption)
  (case k4 => k_asm)
  (case kd => ktr_room)
  (case ku => ktr_units)
  (case r1 => assumption)
  intro r9 n9 h9 tk9 R9 F9 N9
  obtain ⟨hr9, hn9⟩ := R9
  subst hr9
  subst hn9
  (try dsimp only)
  (try k_sweep)
  (try k_fold)))
local macro_rules | `(tactic| walk_at "compareOp NotIn") => `(tactic| (k_here; k_dflt (refine' notin_kinds ?k1 ?k2 ?k3 ?k4 ?_; (case k1 => k_asm); (case k2 => k_asm); (case k3 => k_mem); (case k4 => assumption))))
local macro_rules | `(tactic| walk_at "compareOp Eq bool bool") => `(tactic| (k_here; with_reducible refine eq_same ?_))
local macro_rules | `(tactic| walk_at "call ref") => `(tactic| (k_here; k_dflt (first
  | ((show wpAny _ _ (call (Value.ref 129) [Value.str _ _, Value.int 1 _, Value.int 0 _]) _ _ _); walk_at "mine refused")
  | ((show wpAny _ _ (call (Value.ref 129) _) _ _ _); walk_at "mine refusedA")
  | ((show wpAny _ _ (call (Value.ref 122) _) _ _ _); walk_at "mine right")
  | ((show wpAny _ _ (call (Value.ref 117) _) _ _ _); walk_at "mine number")
  | ((show wpAny _ _ (call (Value.ref 89) _) _ _ _); walk_at "mine one")
  | ((show wpAny _ _ (call (Value.ref 82) _) _ _ _); walk_at "mine take")
  | ((show wpAny _ _ (call (Value.ref 75) _) _ _ _); walk_at "mine pool")
  | ((show wpAny _ _ (call (Value.ref 54) _) _ _ _); walk_at "mine signed")
  | (refine wpAny_call ?_; walk_at "mine enter"))))
theorem law_holds : PySem.Challenge.rw_xm0575_01.Holds := hd (by
  k_go0
  all_goals try k_fold
  repeat' (first | (fail_if_success (with_reducible show wpAny _ _ (exec (Stmt.If (Expr.Compare (Expr.Call _ _ _ _) _ _ _) _ _ _) _) _ _ _)); first | (k_unfold; (try dsimp only)) | walk1 | (dsimp only; walk1))
  rename Fr _ _ _ _ => fJ
  k_dflt (refine' join_b fJ (by rfl) ?jnP ?jnQ)
  case jnP =>
    k_steps
    all_goals (rename Fr _ _ _ _ => fK; rename News _ _ _ _ => nK)
    all_goals first
      | exact ⟨rfl, _, _, _, _, _, _, _, _, rfl, by decide, by assumption, by assumption, by assumption, fK, nK⟩
      | exact ⟨rfl, _, _, _, _, _, _, _, _, rfl, by omega, by assumption, by assumption, by assumption, join_keep rfl fK, nK⟩
  case jnQ =>
    clear fJ
    intro bJ tbJ xJ yJ txJ tyJ hJ tkJ hbJ hxJ hyJ hzJ fJ nJ
    k_steps)
end Mine
end

set_option maxRecDepth 100000 in
set_option maxHeartbeats 8000000 in
theorem PySem.Challenge.cw_xm0575_01_holds : PySem.Challenge.rw_xm0575_01.Holds := by
  exact Mine.law_holds
